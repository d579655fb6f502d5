import PyProof.Rows.All
import Wide.All
import OpenK.AllK
import Wide.FinOn
import HandS.ForMost
import HandS.ForExc
import HandS.Defaults
import HandS.Style
import HandS.IsInst
import HandS.HeadHook1
import HandS.HeadHook2
import HandS.Property
import HandS.Wide
import HandS.Walk
import HandS.SortInts
import HandS.DictComp
import PyProof.ListStr
import HandS.Conv
import PyProof.EnumMake
import PyProof.Draws
import KE.GoesMore
import PyProof.InstEq
import HandS.Exc
import HandS.ExcInit
import HandS.ExcOwn
import HandS.ExcValue
import HandS.ExcField
import HandS.TryOnly
import HandS.WordsExc
import HandS.RaiseMore
import KE.KExcIs
import HandS.HeadHook3
import HandS.HeadHook4
import HandS.Lambda
import HandS.EndTab
import HandS.HeadWalk
import HandS.More
import PyProof.ReprRoads
import HandS.HeadEnd
import PyProof.StrLawsRepr
import PyProof.Rows.RegStrFacts
import HandS.DeepEq
import HandS.Flow
import PyProof.NeKinds
import PyProof.LongRange
import PyProof.ListRange
import PyProof.JoinWalk
import PyProof.DictWalks
import PyProof.CollectIter
import HandS.MapObj
import HandS.Deep
import HandS.Keys
import PySem.Challenge.RW_newsinorder_k42_facts_in_timetables
import KE.KStateDown
import Lean
import HandS.Head0
import HandS.Head1
import HandS.Head2
set_option Elab.async false
set_option linter.all false
set_option maxRecDepth 100000
set_option maxHeartbeats 0
namespace Nw
open PySem PySem.Spec PyProof.Rows L2

/-! ### heaps: what a part of a run does to the view I (what stands for good) and the heap H -/
structure Grow (T : Addr → Prop) (I H I' H' : Hp) : Prop where
  view : Same I I'
  sub : Same I' H'
  keep : ∀ b o, ¬ T b → H b = some o → H' b = some o
  live : ∀ b, H b ≠ none → H' b ≠ none
  fresh : ∀ b, I b = none → H b ≠ none → I' b = none
  tbl : ∀ b ps, I' b = some (.tbl ps) → I b = some (.tbl ps)
/-- no table of code objects -/
abbrev NTb (o : HO) : Prop := ∀ ps, o ≠ .tbl ps
abbrev No : Addr → Prop := fun _ => False
variable {T : Addr → Prop} {I H I' H' I0 H0 I1 H1 I2 H2 J : Hp} {p l m : Addr} {o o' : HO}
theorem Same.up (h : H p = none) : Same H (upd H p o) := fun b u e => by
  rw [upd_ne (ne_of_none e h)]
  exact e
theorem Grow.refl (h : Same I H) : Grow T I H I H := ⟨Same.refl I, h, fun _ _ _ e => e, fun _ e => e, fun _ e _ => e, fun _ _ e => e⟩
theorem Grow.trans (a : Grow T I H I1 H1) (b : Grow T I1 H1 I2 H2) : Grow T I H I2 H2 :=
  ⟨a.view.trans b.view, b.sub, fun x o n e => b.keep x o n (a.keep x o n e), fun x e => b.live x (a.live x e), fun x e n => b.fresh x (a.fresh x e n) (a.live x n), fun x ps e => a.tbl x ps (b.tbl x ps e)⟩
theorem Grow.to {T' : Addr → Prop} (h : ∀ x, T x → T' x) (g : Grow T I H I' H') : Grow T' I H I' H' :=
  ⟨g.view, g.sub, fun x o n e => g.keep x o (fun t => n (h x t)) e, g.live, g.fresh, g.tbl⟩
theorem Grow.no (g : Grow No I H I' H') : Grow T I H I' H' := g.to fun _ z => z.elim
theorem Grow.same (g : Grow No I H I' H') : Same H H' := fun b o e => g.keep b o (fun z => z) e
theorem upd_tbl {b : Addr} {ps : Array Value} (n : NTb o) (e : upd H p o b = some (.tbl ps)) : H b = some (.tbl ps) := by
  unfold upd at e
  split at e
  · exact absurd (Option.some.inj e) (n ps)
  · exact e
theorem upd_live {b : Addr} (h : H b ≠ none) : upd H p o b ≠ none := by
  unfold upd
  split
  · exact fun z => nomatch z
  · exact h
/-- a new object, for good -/
theorem Grow.new (h : Same I H) (hp : H p = none) (nt : NTb o := by intro _ z; cases z) : Grow T I H (upd I p o) (upd H p o) where
  view := Same.up (h.free hp)
  sub := fun b u e => by
    by_cases q : b = p
    · subst q; rw [upd_same] at e ⊢; exact e
    · rw [upd_ne q] at e ⊢; exact h b u e
  keep := fun b u _ e => Same.up hp b u e
  live := fun b e => upd_live e
  fresh := fun b e n => by
    rw [upd_ne (fun z => n (by rw [z]; exact hp))]
    exact e
  tbl := fun b ps e => upd_tbl nt e
/-- a new object of one's own, that may change yet -/
theorem Grow.mine (h : Same I H) (hp : H p = none) : Grow T I H I (upd H p o) where
  view := Same.refl I
  sub := h.trans (Same.up hp)
  keep := fun b u _ e => Same.up hp b u e
  live := fun b e => upd_live e
  fresh := fun b e _ => e
  tbl := fun _ _ e => e
/-- an object of one's own -/
structure Own (T : Addr → Prop) (H0 : Hp) (l : Addr) (o : HO) (I H : Hp) : Prop where
  nt : ¬ T l
  n0 : H0 l = none
  ni : I l = none
  at_ : H l = some o
theorem Own.new (hs : Same I H) (h : Same H0 H ∨ (∀ b, H0 b ≠ none → H b ≠ none)) (ht : ∀ b, T b → H b ≠ none) (hp : H p = none) : Own T H0 p o I (upd H p o) := by
  refine ⟨fun t => ht p t hp, ?_, hs.free hp, upd_same⟩
  cases q : H0 p with
  | none => rfl
  | some u =>
    rcases h with h | h
    · have z := h p u q
      rw [hp] at z; cases z
    · exact absurd hp (h p (by rw [q]; exact fun z => nomatch z))
theorem Own.grow (w : Own T H0 l o I H) (g : Grow T I H I' H') : Own T H0 l o I' H' :=
  ⟨w.nt, w.n0, g.fresh l w.ni (by rw [w.at_]; exact fun z => nomatch z), g.keep l o w.nt w.at_⟩
theorem Own.put (w : Own T H0 l o I H) : Own T H0 l o' I (upd H l o') := ⟨w.nt, w.n0, w.ni, upd_same⟩
theorem Own.other (w : Own T H0 l o I H) (ne : l ≠ m) : Own T H0 l o I (upd H m o') := ⟨w.nt, w.n0, w.ni, by rw [upd_ne ne]; exact w.at_⟩
theorem Grow.put (g : Grow T I0 H0 I H) (w : Own T H0 l o I H) : Grow T I0 H0 I (upd H l o') where
  view := g.view
  sub := fun b u e => by
    rw [upd_ne (ne_of_none e w.ni)]
    exact g.sub b u e
  keep := fun b u n e => by
    rw [upd_ne (ne_of_none e w.n0)]
    exact g.keep b u n e
  live := fun b e => upd_live (g.live b e)
  fresh := g.fresh
  tbl := g.tbl
/-- it is given out: it will not change any more -/
theorem Grow.give (g : Grow T I0 H0 I H) (w : Own T H0 l o I H) (nt : NTb o := by intro _ z; cases z) : Grow T I0 H0 (upd I l o) H where
  view := g.view.trans (Same.up w.ni)
  sub := fun b u e => by
    by_cases q : b = l
    · subst q; rw [upd_same] at e; rw [w.at_]; exact e
    · rw [upd_ne q] at e; exact g.sub b u e
  keep := g.keep
  live := g.live
  fresh := fun b e n => by
    rw [upd_ne (fun z => n (by rw [z]; exact w.n0))]
    exact g.fresh b e n
  tbl := fun b ps e => g.tbl b ps (upd_tbl nt e)

/-- what was changed is younger than where one looks from -/
theorem Grow.drop (g0 : Grow T I0 H0 I H) {T' : Addr → Prop} (g : Grow T' I H I' H') (hT : ∀ b, T' b → T b ∨ H0 b = none) : Grow T I0 H0 I' H' where
  view := g0.view.trans g.view
  sub := g.sub
  keep := fun b u n e => g.keep b u (fun t => by
    rcases hT b t with z | z
    · exact n z
    · rw [z] at e; cases e) (g0.keep b u n e)
  live := fun b e => g.live b (g0.live b e)
  fresh := fun b e n => g.fresh b (g0.fresh b e n) (g0.live b n)
  tbl := fun b ps e => g0.tbl b ps (g.tbl b ps e)
/-- x is given out, with what it holds now -/
theorem Grow.give' (g : Grow T I0 H0 I H) (n0 : H0 l = none) (ni : I l = none) (h : H l = some o) (nt : NTb o := by intro _ z; cases z) : Grow T I0 H0 (upd I l o) H where
  view := g.view.trans (Same.up ni)
  sub := fun b u e => by
    by_cases q : b = l
    · subst q; rw [upd_same] at e; rw [h]; exact e
    · rw [upd_ne q] at e; exact g.sub b u e
  keep := g.keep
  live := g.live
  fresh := fun b e n => by
    rw [upd_ne (fun z => n (by rw [z]; exact n0))]
    exact g.fresh b e n
  tbl := fun b ps e => g.tbl b ps (upd_tbl nt e)

/-- an object that T names is changed -/
theorem Grow.chg (g : Grow T I0 H0 I H) (t : T p) (ni : I p = none) : Grow T I0 H0 I (upd H p o') where
  view := g.view
  sub := fun b u e => by
    rw [upd_ne (ne_of_none e ni)]
    exact g.sub b u e
  keep := fun b u n e => by
    rw [upd_ne (fun z => n (by rw [z]; exact t))]
    exact g.keep b u n e
  live := fun b e => upd_live (g.live b e)
  fresh := g.fresh
  tbl := g.tbl

/-! ### data and what stands for it -/
class Rep (α : Type) where
  is : Hp → V → α → Prop
  mono : ∀ {H H' : Hp} {v : V} {x : α}, Same H H' → is H v x → is H' v x
instance : Rep V := ⟨fun _ v x => v = x, fun _ h => h⟩
instance : Rep Int := ⟨fun _ v x => v = .int x, fun _ h => h⟩
instance : Rep Bool := ⟨fun _ v x => v = .bl x, fun _ h => h⟩
instance : Rep Str := ⟨fun _ v x => v = .str x, fun _ h => h⟩
instance : Rep Unit := ⟨fun _ v _ => v = .non, fun _ h => h⟩
theorem Paired.mono' {α β : Type} {F G : α → β → Prop} (h : ∀ a b, F a b → G a b) : ∀ {xs : List α} {ys : List β}, Paired F xs ys → Paired G xs ys
  | _, _, .nil => .nil
  | _, _, .cons a t => .cons (h _ _ a) (Paired.mono' h t)
/-- a list -/
def isL {α : Type} [Rep α] (I : Hp) (v : V) (xs : List α) : Prop := ∃ a vs, v = .ref a ∧ I a = some (.lst vs) ∧ Paired (Rep.is I) vs xs
/-- a tuple of any length, of things of one kind -/
structure Tup (α : Type) where
  l : List α
def isU {α : Type} [Rep α] (I : Hp) (v : V) (xs : List α) : Prop := ∃ a vs, v = .ref a ∧ I a = some (.tup vs) ∧ Paired (Rep.is I) vs xs
instance {α : Type} [Rep α] : Rep (List α) := ⟨isL, fun e ⟨a, vs, h1, h2, h3⟩ => ⟨a, vs, h1, e _ _ h2, Paired.mono' (fun _ _ z => Rep.mono e z) h3⟩⟩
instance {α : Type} [Rep α] : Rep (Tup α) := ⟨fun I v x => isU I v x.l, fun e ⟨a, vs, h1, h2, h3⟩ => ⟨a, vs, h1, e _ _ h2, Paired.mono' (fun _ _ z => Rep.mono e z) h3⟩⟩
/-- a pair -/
def isP {α β : Type} [Rep α] [Rep β] (I : Hp) (v : V) (x : α × β) : Prop := ∃ a v1 v2, v = .ref a ∧ I a = some (.tup [v1, v2]) ∧ Rep.is I v1 x.1 ∧ Rep.is I v2 x.2
instance {α β : Type} [Rep α] [Rep β] : Rep (α × β) := ⟨isP, fun e ⟨a, v1, v2, h1, h2, h3, h4⟩ => ⟨a, v1, v2, h1, e _ _ h2, Rep.mono e h3, Rep.mono e h4⟩⟩

/-! ### what an expression gives -/
def EvR {α : Type} [Rep α] (te : TE) (σ : L2.St) (I : Hp) (x : α) : Prop := ∀ H, Same I H → ∀ Q : VK, (∀ v I' H', Grow No I H I' H' → Rep.is I' v x → Q v H') → te σ H Q
def EvT (tt : TT) (σ : L2.St) (I : Hp) (b : Bool) : Prop := ∀ H, Same I H → ∀ Q : Bool → Hp → Prop, (∀ I' H', Grow No I H I' H' → Q b H') → tt σ H Q
def un (J I : Hp) : Hp := fun b => match J b with
  | some o => some o
  | none => I b
theorem un_l : Same J (un J I) := fun b o e => by
  unfold un
  rw [e]
theorem un_none {b : Addr} (h : J b = none) : un J I b = I b := by
  unfold un
  rw [h]
theorem Grow.join {e : Same I J} {s : Same J H} (g : Grow No I H I' H') : Grow No J H (un J I') H' ∧ Same I' (un J I') := by
  have k : Same J H' := fun b o q => g.keep b o (fun z => z) (s b o q)
  refine ⟨⟨un_l, fun b o q => ?_, g.keep, g.live, fun b n q => ?_, fun b ps q => ?_⟩, fun b o q => ?_⟩
  · cases h : J b with
    | none => rw [un_none h] at q; exact g.sub b o q
    | some u =>
      have z : un J I' b = some u := un_l b u h
      rw [z] at q; cases q
      exact k b o h
  · rw [un_none n]
    exact g.fresh b (e.free n) q
  · cases h : J b with
    | none =>
      rw [un_none h] at q
      have z := e b _ (g.tbl b ps q)
      rw [h] at z; cases z
    | some u =>
      have z : un J I' b = some u := un_l b u h
      rw [z] at q
      exact q
  · cases h : J b with
    | none => rw [un_none h]; exact q
    | some u =>
      have z : un J I' b = some u := un_l b u h
      have h1 := k b u h
      rw [g.sub b o q] at h1
      rw [z, h1]
section
variable {α β γ : Type} [Rep α] [Rep β] [Rep γ] {te ta tb tc : TE} {tt t u : TT} {σ : L2.St} {x : α} {y : β} {z : γ} {v w : V} {K : PySem.W.Frag}
theorem EvR.mono (h : EvR te σ I x) (e : Same I J) : EvR te σ J x := fun H s Q k => h H (e.trans s) Q fun v I' H' g r =>
  let ⟨g', e'⟩ := g.join (e := e) (s := s)
  k v _ H' g' (Rep.mono e' r)
theorem EvT.mono {b : Bool} (h : EvT tt σ I b) (e : Same I J) : EvT tt σ J b := fun H s Q k => h H (e.trans s) Q fun I' H' g =>
  let ⟨g', _⟩ := g.join (e := e) (s := s)
  k _ H' g'
/-- the rest of an evaluation: from the view and the heap as they stand -/
theorem EvR.go (h : EvR te σ I x) (s : Same I H) {Q : VK} (k : ∀ v I' H', Grow No I H I' H' → Rep.is I' v x → Q v H') : te σ H Q := h H s Q k
theorem evr_var {i : Nat} (h : σ[i]? = some (some v)) (r : Rep.is I v x) : EvR (tVar i) σ I x := fun H s Q k => ⟨v, h, k v I H (Grow.refl s) r⟩
theorem evr_c (r : Rep.is I v x) : EvR (tC v) σ I x := fun H s Q k => k v I H (Grow.refl s) r
theorem evr_int {i : Int} : EvR (tC (.int i)) σ I i := evr_c rfl
theorem evr_str {s : Str} : EvR (tC (.str s)) σ I s := evr_c rfl
theorem evr_bl {b : Bool} : EvR (tC (.bl b)) σ I b := evr_c rfl
theorem evr_non : EvR (tC .non) σ I () := evr_c rfl
/-- what an operator makes of two values -/
def RvR (r : R2) (I : Hp) (v w : V) (z : γ) : Prop := ∀ H, Same I H → ∀ Q : VK, (∀ u I' H', Grow No I H I' H' → Rep.is I' u z → Q u H') → r v w H Q
theorem evr_op {r : R2} (ha : EvR ta σ I x) (hb : EvR tb σ I y) (hr : ∀ J v w, Same I J → Rep.is J v x → Rep.is J w y → RvR r J v w z) : EvR (tOp r ta tb) σ I z := fun H s Q k =>
  ha H s _ fun v I1 H1 g1 r1 => (hb.mono g1.view) H1 g1.sub _ fun w I2 H2 g2 r2 => hr I2 v w (g1.view.trans g2.view) (Rep.mono g2.view r1) r2 H2 g2.sub Q fun u I3 H3 g3 r3 => k u I3 H3 ((g1.trans g2).trans g3) r3
theorem evr_opI {r : R2} {i j : Int} {z : γ} (ha : EvR ta σ I i) (hb : EvR tb σ I j) (hr : ∀ J, RvR r J (.int i) (.int j) z) : EvR (tOp r ta tb) σ I z :=
  evr_op ha hb fun J v w _ h1 h2 => by
    cases h1; cases h2
    exact hr J
theorem rvr_I0 {g : Int → Int → V} {i j : Int} (h : ∀ J, Rep.is J (g i j) z) : RvR (rI0 g) I (.int i) (.int j) z := fun H s Q k => ⟨i, j, rfl, rfl, k _ I H (Grow.refl s) (h I)⟩
theorem rvr_I {C : Int → Int → Prop} {g : Int → Int → V} {i j : Int} (hc : C i j) (h : ∀ J, Rep.is J (g i j) z) : RvR (rI C g) I (.int i) (.int j) z := fun H s Q k => ⟨i, j, rfl, rfl, hc, k _ I H (Grow.refl s) (h I)⟩
end
end Nw

namespace Nw
open PySem PySem.Spec PyProof.Rows L2

/-! ### a def and its promise, by the def's address -/
structure Ok (P : Program) (w : World) (K : PySem.W.Frag) (mg : Str → Option Value) (base : Heap) (CX : CXT) (k : Nat) (f : Addr) (ps : List Str) (sp : Sp) : Prop where
  ok : ∃ fd, FnOk P w K mg base CX k f fd ps sp ∧ Binds K fd ps [] ∧ PySem.W.keepIn K (.ref f) = true ∧ ∃ oc od osl, K.lookup f = some ⟨oc, od, .func fd, osl⟩
abbrev FnAt (K : PySem.W.Frag) (x qual : Str) (st : Stmt) (f : Addr) : Prop := ∃ fd, FunD K x qual (defArgs st) (defBody st) (defScope st) [] [] f fd
section
variable {P : Program} {w : World} {K : PySem.W.Frag} {mg : Str → Option Value} {base : Heap} {X : Cx} {CX : CXT} {k : Nat} {f C p g : Addr} {ps : List Str} {sp : Sp} {E : XK} {x m : Str} {pos ppos apos : Pos} {e o : Expr} {es : List Expr} {ta : TE} {t : TA}
theorem Ok.imp {sp' : Sp} (G : Ok P w K mg base CX k f ps sp) (h : ∀ vs H Q E, sp' vs H Q E → sp vs H Q E) : Ok P w K mg base CX k f ps sp' := by
  obtain ⟨fd, F, b, kp⟩ := G.ok
  exact ⟨fd, F.imp h, b, kp⟩
theorem Ok.up {j : Nat} (G : Ok P w K mg base CX k f ps sp) (h : k ≤ j) : Ok P w K mg base CX j f ps sp := by
  obtain ⟨fd, F, b, kp⟩ := G.ok
  exact ⟨fd, F.mono h, b, kp⟩
/-- a def that lets no exception out keeps its promise -/
theorem ok_of {qual : Str} {st : Stmt} {N : List Str} (F : FnAt K x qual st f) (S : FnScope N ps (defScope st))
    (hb : ∀ (kV doc pm : Value) (an : Option Addr) (cdv ct : Value) (us : List Value), us.length = ps.length → bindArgs (PySem.W.fnOf x qual (defArgs st) (defBody st) (defScope st) .none kV doc pm an cdv ct) ⟨us, []⟩ = pure (ps.zip us))
    (len : ∀ vs H Q E, sp vs H Q E → vs.length = ps.length)
    (hbody : ∀ (cdv : Value) (A : Around) (outer : List Env) (s : Shared) (H : Hp) (vs : List V) (Q : VK) (E : XK), Room k (A.deeper (envOfC qual (defScope st) s.heap.objs.size f cdv)) → sp vs H Q E →
      ∃ t, PSs (cxOf CX0 P w K mg base N qual (defScope st) f cdv A outer s H E).nox (defBody st) t ∧ t { nx := fun _ H' => Q .non H', rt := Q } (start N vs) H) : Ok P w K mg base CX0 (k + 1) f ps sp := by
  obtain ⟨fd, F⟩ := F
  refine ⟨fd, F.ok S len fun cdv A outer s H vs Q E hr h => ?_, F.bindsN hb, F.kp, let ⟨oc, od, _, _, _, _, _, _, _, osl, _, lk, _⟩ := F.ex; ⟨oc, od, osl, lk⟩⟩
  obtain ⟨t, h1, h2⟩ := hbody cdv A outer s H vs Q E hr h
  exact ⟨t, h1.nox, h2⟩
/-- a def that lets none out, where some may be let out -/
theorem Ok.toX {CX' : CXT} (G : Ok P w K mg base CX0 k f ps sp) : Ok P w K mg base CX' k f ps sp := by
  obtain ⟨fd, F, r⟩ := G.ok
  refine ⟨fd, ⟨F.len, fun A outer s H args us vs Q E hr e0 hb rv h => codeAny_mono (F.run A outer s H args us vs Q E hr e0 hb rv h) fun r s' hq => ?_⟩, r⟩
  cases r with
  | error e => exact (show False from hq).elim
  | ok fl => cases fl <;> exact hq
/-- both of two promises -/
theorem Ok.or {sp' : Sp} (G : Ok P w K mg base CX k f ps sp) (G' : Ok P w K mg base CX k f ps sp') : Ok P w K mg base CX k f ps (fun vs H Q E => sp vs H Q E ∨ sp' vs H Q E) := by
  obtain ⟨fd, F, b, kp, oc, od, osl, lk⟩ := G.ok
  obtain ⟨fd', F', _, _, oc', od', osl', lk'⟩ := G'.ok
  rw [lk] at lk'
  cases lk'
  refine ⟨fd, ⟨fun vs H Q E h => h.elim (F.len vs H Q E) (F'.len vs H Q E), fun A outer s H args us vs Q E hr e0 hb rv h => ?_⟩, b, kp, oc, od, osl, lk⟩
  rcases h with h | h
  · exact F.run A outer s H args us vs Q E hr e0 hb rv h
  · exact F'.run A outer s H args us vs Q E hr e0 hb rv h
theorem pe_callC (G : Ok X.prog X.w X.K X.mg X.base CX0 k f ps sp) (hr : Room k X.A) (hm : X.mg x = some (.ref f)) (ha : PA X (e :: es) t) (hg : Gl X x := by rfl) (hdb : (x == ("__debug__" : Str)) = false := by decide)
    (he : starEach (e :: es) X.env = (false, eval e X.env) :: starEach es X.env := by rfl) (hpl : (backTo pos (starEach es X.env)).any (·.1) = false := by rfl) : PE X (.Call (.Name x ppos) (e :: es) [] pos) (tCall sp [] E0 t) := by
  obtain ⟨fd, F, b, kp, _⟩ := G.ok
  exact pe_call F hr hg hm kp b .nil pass0 ha hdb he hpl
theorem pe_makeC (M : Mk X.K C f) (G : Ok X.prog X.w X.K X.mg X.base CX0 k f ps sp) (hr : Room (k + 1) X.A) (hm : X.mg x = some (.ref C)) (ha : PA X (e :: es) t) (hg : Gl X x := by rfl) (hdb : (x == ("__debug__" : Str)) = false := by decide)
    (he : starEach (e :: es) X.env = (false, eval e X.env) :: starEach es X.env := by rfl) (hpl : (backTo pos (starEach es X.env)).any (·.1) = false := by rfl) : PE X (.Call (.Name x ppos) (e :: es) [] pos) (tMake C sp [] E0 t) := by
  obtain ⟨fd, F, b, kp, _⟩ := G.ok
  exact pe_make M F hr hg hm b .nil pass0 ha hdb he hpl
theorem pe_gint {i : Int} (h : ∃ t, X.mg x = some (.int i t)) (hg : Gl X x := by rfl) (hd : (x == ("__debug__" : Str)) = false := by decide) : PE X (.Name x pos) (tC (.int i)) := by
  obtain ⟨t, h⟩ := h
  exact pe_glob hg h ⟨t, rfl⟩ hd
theorem pe_gstr {i : Str} (h : ∃ t, X.mg x = some (.str i t)) (hg : Gl X x := by rfl) (hd : (x == ("__debug__" : Str)) = false := by decide) : PE X (.Name x pos) (tC (.str i)) := by
  obtain ⟨t, h⟩ := h
  exact pe_glob hg h ⟨t, rfl⟩ hd
/-- a statement, then the others, by what holds between them -/
def tMid (t u : TS) : TS := fun D σ H => ∃ M : L2.St → Hp → Prop, t { D with nx := M } σ H ∧ ∀ σ1 H1, M σ1 H1 → u D σ1 H1
theorem pss_mid {st : Stmt} {sts : List Stmt} {t u : TS} (a : PS X st t) (b : PSs X sts u) : PSs X (st :: sts) (tMid t u) :=
  ⟨fun pins s σ H D I ⟨M, h1, h2⟩ => wpAny_execs_cons (wpAny_mono (a.run pins s σ H { D with nx := M } I h1) (fun f s1 q => by
    cases f with
    | next => exact let ⟨σ1, H1, I1, q1⟩ := q; b.run pins s1 σ1 H1 D I1 (h2 σ1 H1 q1)
    | ret v => exact q
    | brk => exact q
    | cont => exact q) fun _ _ z => z)⟩
/-- what isinstance leans on, of an own class -/
structure InsF (K : PySem.W.Frag) (C : Addr) : Prop where
  ha : PySem.W.findIn K (.ref C) "__class__" = some (some (.builtin "object.__class__"))
  hn : PySem.W.specialIn K (.builtin "object.__class__") "__get__" = some (some (.builtin "getset_descriptor.__get__"))
  htk : PySem.W.takesIn K (.builtin "object.__class__") = some true
  hm : PySem.W.mroIn K C (.type "object") = some true
def insB (K : PySem.W.Frag) (C : Addr) : Bool := decide (PySem.W.findIn K (.ref C) "__class__" = some (some (.builtin "object.__class__"))) && (decide (PySem.W.specialIn K (.builtin "object.__class__") "__get__" = some (some (.builtin "getset_descriptor.__get__"))) && (decide (PySem.W.takesIn K (.builtin "object.__class__") = some true) && decide (PySem.W.mroIn K C (.type "object") = some true)))
theorem insB_ok {K : PySem.W.Frag} {C : Addr} (h : insB K C = true) : InsF K C := by
  unfold insB at h
  simp only [Bool.and_eq_true, decide_eq_true_eq] at h
  exact ⟨h.1, h.2.1, h.2.2.1, h.2.2.2⟩
theorem InsF.ty {K : PySem.W.Frag} {H : Hp} {a C dx : Addr} {fs : List (Str × V)} (F : InsF K C) (c : Cls K C) (h : H a = some (.ins C dx fs)) : TyX K H (.ref a) (.ref C) := .base (.ins h c F.ha F.hn F.htk F.hm)
theorem kit_self {K : PySem.W.Frag} {C : Addr} : PySem.W.kitOne K (.ref C) (.ref C) = some true := by
  unfold PySem.W.kitOne
  rw [if_pos (by simp)]
theorem kit_refl {K : PySem.W.Frag} {t : Value} (h : (t == t) = true := by rfl) : PySem.W.kitOne K t t = some true := by
  unfold PySem.W.kitOne
  rw [if_pos h]
theorem kit_any_hd {K : PySem.W.Frag} {t : Value} {r : List Value} (h : (t == t) = true := by rfl) : PySem.W.kitAny K t (t :: r) = some true := by
  unfold PySem.W.kitAny
  rw [kit_refl h]
/-- xs == [] and xs != [], whatever stands in xs -/
def rNilE (K : PySem.W.Frag) : R2 := fun x y H Q => ∃ a b xs, x = .ref a ∧ y = .ref b ∧ SqL K H a xs ∧ SqL K H b [] ∧ Q (.bl xs.isEmpty) H
def rNilN (K : PySem.W.Frag) : R2 := fun x y H Q => ∃ a b xs, x = .ref a ∧ y = .ref b ∧ SqL K H a xs ∧ SqL K H b [] ∧ Q (.bl (!xs.isEmpty)) H
theorem op_eqNil (hu : X.A.units + 64 < cLine) : OpR X (compareOp .Eq) (rNilE X.K) := by
  intro pins s σ H x y v u Q I rx ry h
  obtain ⟨a, b, xs, rfl, rfl, ha, hb, q⟩ := h
  cases rx
  cases ry
  obtain ⟨its, r1, t1, z1⟩ := I.list ha
  obtain ⟨its2, r2, t2, z2⟩ := I.list hb
  cases r2
  have hu' : X.A.units < cLine := Nat.lt_of_le_of_lt (Nat.le_add_right _ _) hu
  cases r1 with
  | nil =>
    refine SeqAt.eq_listAt (e := fun _ => true) t1.isList t2.isList rfl hu' (fun j h1 => ?_) ⟨.bl true, H, I, rfl, q⟩
    exact absurd h1 (by simp)
  | cons p r => exact SeqAt.eq_list_lengthsAt t1.isList t2.isList (by simp) hu' ⟨.bl false, H, I, rfl, q⟩
theorem op_neNil (hu : X.A.units + 64 < cLine) : OpR X (compareOp .NotEq) (rNilN X.K) := by
  intro pins s σ H x y v u Q I rx ry h
  obtain ⟨a, b, xs, rfl, rfl, ha, hb, q⟩ := h
  cases rx
  cases ry
  obtain ⟨its, r1, t1, z1⟩ := I.list ha
  obtain ⟨its2, r2, t2, z2⟩ := I.list hb
  cases r2
  have hu' : X.A.units < cLine := Nat.lt_of_le_of_lt (Nat.le_add_right _ _) hu
  cases r1 with
  | nil =>
    refine SeqAt.RcNeAt.lists (e := fun _ => true) t1.isList t2.isList rfl hu' (fun j h1 => ?_) _ _ _ _ ⟨.bl false, H, I, rfl, q⟩
    exact absurd h1 (by simp)
  | cons p r => exact SeqAt.RcNeAt.lists_lengths t1.isList t2.isList (by simp) hu' _ _ _ _ ⟨.bl true, H, I, rfl, q⟩
end
end Nw

namespace Nw
open PySem PySem.Spec PyProof.Rows L2
/-! ### the source of draws: a dict, two lists -/
structure DA where
  d : Addr
  g : Addr
  l : Addr
def TD (D : DA) : Addr → Prop := fun b => b = D.d ∨ b = D.g ∨ b = D.l
abbrev drK (D : DA) (dig tn : Int) : List (Key × V) := [(.inr "digits", .int dig), (.inr "great", .ref D.g), (.inr "lumps", .ref D.l), (.inr "turn", .int tn)]
structure DrS (D : DA) (dig tn : Int) (gs ls : List Int) (I H : Hp) : Prop where
  sub : Same I H
  vd : I D.d = none
  vg : I D.g = none
  vl : I D.l = none
  dg : D.d ≠ D.g
  dl : D.d ≠ D.l
  gl : D.g ≠ D.l
  hd : H D.d = some (.dK (drK D dig tn))
  hg : H D.g = some (.lst (gs.map V.int))
  hl : H D.l = some (.lst (ls.map V.int))
structure Drw (D : DA) (n : Nat) (I H : Hp) : Prop where
  ex : ∃ (dig tn : Int) (gs ls : List Int), DrS D dig tn gs ls I H ∧ 0 ≤ dig ∧ 0 ≤ tn ∧ tn ≤ n ∧ (∀ g ∈ gs, 0 ≤ g) ∧ (∀ l ∈ ls, 0 ≤ l)
section
variable {D : DA} {dig tn : Int} {gs ls : List Int} {n : Nat} {T : Addr → Prop} {I H I' H' I0 H0 : Hp} {p l m : Addr} {o o' : HO}
theorem DrS.live (s : DrS D dig tn gs ls I H) : ∀ b, TD D b → H b ≠ none := fun b t => by
  rcases t with rfl | rfl | rfl
  · rw [s.hd]; exact fun z => nomatch z
  · rw [s.hg]; exact fun z => nomatch z
  · rw [s.hl]; exact fun z => nomatch z
theorem Drw.live (w : Drw D n I H) : ∀ b, TD D b → H b ≠ none := let ⟨_, _, _, _, s, _⟩ := w.ex; s.live
theorem Drw.sub (w : Drw D n I H) : Same I H := let ⟨_, _, _, _, s, _⟩ := w.ex; s.sub
theorem DrS.grow (s : DrS D dig tn gs ls I H) (g : Grow No I H I' H') : DrS D dig tn gs ls I' H' :=
  ⟨g.sub, g.fresh _ s.vd (s.live _ (.inl rfl)), g.fresh _ s.vg (s.live _ (.inr (.inl rfl))), g.fresh _ s.vl (s.live _ (.inr (.inr rfl))), s.dg, s.dl, s.gl, g.keep _ _ (fun z => z) s.hd, g.keep _ _ (fun z => z) s.hg, g.keep _ _ (fun z => z) s.hl⟩
theorem Drw.grow (w : Drw D n I H) (g : Grow No I H I' H') : Drw D n I' H' := let ⟨a, b, c, d, s, r⟩ := w.ex; ⟨a, b, c, d, s.grow g, r⟩
theorem DrS.put (s : DrS D dig tn gs ls I H) (nt : ¬ TD D m) (ni : I m = none) : DrS D dig tn gs ls I (upd H m o) :=
  ⟨fun b u e => by rw [upd_ne (ne_of_none e ni)]; exact s.sub b u e, s.vd, s.vg, s.vl, s.dg, s.dl, s.gl, by rw [upd_ne fun z => nt (.inl z.symm)]; exact s.hd, by rw [upd_ne fun z => nt (.inr (.inl z.symm))]; exact s.hg, by rw [upd_ne fun z => nt (.inr (.inr z.symm))]; exact s.hl⟩
theorem Drw.put (w : Drw D n I H) (x : Own (TD D) H0 m o I H) : Drw D n I (upd H m o') := let ⟨a, b, c, d, s, r⟩ := w.ex; ⟨a, b, c, d, s.put x.nt x.ni, r⟩
theorem Drw.give (w : Drw D n I H) (x : Own (TD D) H0 m o I H) : Drw D n (upd I m o) H := by
  obtain ⟨a, b, c, d, s, r⟩ := w.ex
  refine ⟨a, b, c, d, ⟨fun q u e => ?_, ?_, ?_, ?_, s.dg, s.dl, s.gl, s.hd, s.hg, s.hl⟩, r⟩
  · by_cases z : q = m
    · subst z; rw [upd_same] at e; rw [x.at_]; exact e
    · rw [upd_ne z] at e; exact s.sub q u e
  · rw [upd_ne fun z => x.nt (.inl z.symm)]; exact s.vd
  · rw [upd_ne fun z => x.nt (.inr (.inl z.symm))]; exact s.vg
  · rw [upd_ne fun z => x.nt (.inr (.inr z.symm))]; exact s.vl
theorem Drw.mono {m : Nat} (w : Drw D n I H) (h : n ≤ m) : Drw D m I H := by
  obtain ⟨a, b, c, d, s, h1, h2, h3, h4⟩ := w.ex
  exact ⟨a, b, c, d, s, h1, h2, by omega, h4⟩
theorem DrS.up (s : DrS D dig tn gs ls I H) {d2 t2 : Int} (hH : Same I H') (h1 : H' D.d = some (.dK (drK D d2 t2))) {gs2 : List Int} (h2 : H' D.g = some (.lst (gs2.map V.int))) (h3 : H' D.l = some (.lst (ls.map V.int))) : DrS D d2 t2 gs2 ls I H' :=
  ⟨hH, s.vd, s.vg, s.vl, s.dg, s.dl, s.gl, h1, h2, h3⟩
/-- only the source's own objects change -/
theorem DrS.gd (s : DrS D dig tn gs ls I H) (g : Grow (TD D) I0 H0 I H) : Grow (TD D) I0 H0 I (upd H D.d o) where
  view := g.view
  sub := fun b u e => by rw [upd_ne (ne_of_none e s.vd)]; exact g.sub b u e
  keep := fun b u n e => by rw [upd_ne fun z => n (.inl z)]; exact g.keep b u n e
  live := fun b e => upd_live (g.live b e)
  fresh := g.fresh
  tbl := g.tbl
theorem DrS.gg (s : DrS D dig tn gs ls I H) (g : Grow (TD D) I0 H0 I H) : Grow (TD D) I0 H0 I (upd H D.g o) where
  view := g.view
  sub := fun b u e => by rw [upd_ne (ne_of_none e s.vg)]; exact g.sub b u e
  keep := fun b u n e => by rw [upd_ne fun z => n (.inr (.inl z))]; exact g.keep b u n e
  live := fun b e => upd_live (g.live b e)
  fresh := g.fresh
  tbl := g.tbl
end
theorem putK_new {κ : Type} [DecidableEq κ] {kvs : List (κ × V)} {k : κ} {v : V} (h : k ∉ kvs.map (·.1)) : putK kvs k v = kvs ++ [(k, v)] := by
  unfold putK
  have e : (kvs.any fun kv => decide (kv.1 = k)) = false := by
    rw [List.any_eq_false]
    intro kv hkv z
    exact h (List.mem_map.mpr ⟨kv, hkv, of_decide_eq_true z⟩)
  rw [e, if_neg Bool.false_ne_true]
theorem merge_app : ∀ {more acc : List (Key × V)}, (∀ k ∈ more.map (·.1), k ∉ acc.map (·.1)) → (more.map (·.1)).Nodup → mergeK acc more = acc ++ more
  | [], acc, _, _ => (List.append_nil acc).symm
  | q :: r, acc, h, nd => by
    have h1 : putK acc q.1 q.2 = acc ++ [q] := putK_new (h q.1 (List.mem_cons_self ..))
    have nd' := List.nodup_cons.mp nd
    have ih := merge_app (more := r) (acc := acc ++ [q]) (fun k hk => by
      rw [List.map_append, List.mem_append]
      rintro (z | z)
      · exact h k (List.mem_cons_of_mem _ hk) z
      · simp at z; subst z; exact nd'.1 hk) nd'.2
    show mergeK (putK acc q.1 q.2) r = acc ++ q :: r
    rw [h1, ih, List.append_assoc] <;> rfl
theorem merge_nodup {kvs : List (Key × V)} (h : (kvs.map (·.1)).Nodup) : mergeK [] kvs = kvs := merge_app (fun _ _ z => by cases z) h
theorem k12 : ¬ ((Sum.inr "digits" : Key) = (Sum.inr "great" : Key)) := by decide +kernel
theorem k13 : ¬ ((Sum.inr "digits" : Key) = (Sum.inr "lumps" : Key)) := by decide +kernel
theorem k14 : ¬ ((Sum.inr "digits" : Key) = (Sum.inr "turn" : Key)) := by decide +kernel
theorem k23 : ¬ ((Sum.inr "great" : Key) = (Sum.inr "lumps" : Key)) := by decide +kernel
theorem k24 : ¬ ((Sum.inr "great" : Key) = (Sum.inr "turn" : Key)) := by decide +kernel
theorem k34 : ¬ ((Sum.inr "lumps" : Key) = (Sum.inr "turn" : Key)) := by decide +kernel
variable {D : DA} {dig tn i : Int}
theorem val_dig : valV (drK D dig tn) (Sum.inr "digits") = some (.int dig) := valV_pos rfl
theorem val_great : valV (drK D dig tn) (Sum.inr "great") = some (.ref D.g) := (valV_neg k12).trans (valV_pos rfl)
theorem val_lumps : valV (drK D dig tn) (Sum.inr "lumps") = some (.ref D.l) := (valV_neg k13).trans ((valV_neg k23).trans (valV_pos rfl))
theorem val_turn : valV (drK D dig tn) (Sum.inr "turn") = some (.int tn) := (valV_neg k14).trans ((valV_neg k24).trans ((valV_neg k34).trans (valV_pos rfl)))
theorem put_dig : putK (drK D dig tn) (Sum.inr "digits") (.int i) = drK D i tn := by
  unfold putK
  rw [valV_any, val_dig]
  show (if true = true then _ else _) = _
  rw [if_pos rfl]
  simp only [List.map_cons, List.map_nil]
  rw [if_pos trivial, if_neg (Ne.symm k12), if_neg (Ne.symm k13), if_neg (Ne.symm k14)]
theorem put_turn : putK (drK D dig tn) (Sum.inr "turn") (.int i) = drK D dig i := by
  unfold putK
  rw [valV_any, val_turn]
  show (if true = true then _ else _) = _
  rw [if_pos rfl]
  simp only [List.map_cons, List.map_nil]
  rw [if_neg k14, if_neg k24, if_neg k34, if_pos trivial]
def lim : Nat := 1099511627776
/-- a number below many -/
def spNext : Sp := fun vs H Q _ => ∃ (I : Hp) (D : DA) (n : Nat) (many : Int), vs = [.ref D.d, .int many] ∧ Drw D n I H ∧ 0 < many ∧ many < 1073741824 ∧ n < lim ∧
  ∀ (r : Int) (H' : Hp), 0 ≤ r → r < many → Grow (TD D) I H I H' → Drw D (n + 1) I H' → Q (.int r) H'
theorem DrS.get_dig {gs ls : List Int} {I H : Hp} (s : DrS D dig tn gs ls I H) : DGet H D.d (.str "digits") (some (.int dig)) := by
  have z := DGet.k (k := .inr "digits") s.hd
  rw [val_dig] at z
  exact z
theorem DrS.get_great {gs ls : List Int} {I H : Hp} (s : DrS D dig tn gs ls I H) : DGet H D.d (.str "great") (some (.ref D.g)) := by
  have z := DGet.k (k := .inr "great") s.hd
  rw [val_great] at z
  exact z
theorem DrS.get_lumps {gs ls : List Int} {I H : Hp} (s : DrS D dig tn gs ls I H) : DGet H D.d (.str "lumps") (some (.ref D.l)) := by
  have z := DGet.k (k := .inr "lumps") s.hd
  rw [val_lumps] at z
  exact z
theorem DrS.get_turn {gs ls : List Int} {I H : Hp} (s : DrS D dig tn gs ls I H) : DGet H D.d (.str "turn") (some (.int tn)) := by
  have z := DGet.k (k := .inr "turn") s.hd
  rw [val_turn] at z
  exact z
theorem DrS.put_dig {gs ls : List Int} {I H : Hp} (s : DrS D dig tn gs ls I H) : DPut H D.d (.str "digits") (.int i) (upd H D.d (.dK (drK D i tn))) := by
  have z := DPut.k (k := .inr "digits") (v := .int i) s.hd (by show 4 < sizeLine; decide)
  rw [Nw.put_dig] at z
  exact z
theorem DrS.put_turn {gs ls : List Int} {I H : Hp} (s : DrS D dig tn gs ls I H) : DPut H D.d (.str "turn") (.int i) (upd H D.d (.dK (drK D dig i))) := by
  have z := DPut.k (k := .inr "turn") (v := .int i) s.hd (by show 4 < sizeLine; decide)
  rw [Nw.put_turn] at z
  exact z
end Nw

namespace Nw
open PySem PySem.Spec PyProof.Rows L2
/-- what is said of the heap stands through the making and changing of other things -/
structure Stable (T : Addr → Prop) (R : Hp → Hp → Prop) : Prop where
  grow : ∀ {I H I' H' : Hp}, R I H → Grow No I H I' H' → R I' H'
  put : ∀ {H0 : Hp} {m : Addr} {o o' : HO} {I H : Hp}, R I H → Own T H0 m o I H → R I (upd H m o')
  give : ∀ {H0 : Hp} {m : Addr} {o : HO} {I H : Hp}, R I H → Own T H0 m o I H → R (upd I m o) H
theorem Stable.triv {T : Addr → Prop} : Stable T fun _ _ => True := ⟨fun _ _ => trivial, fun _ _ => trivial, fun _ _ => trivial⟩
theorem Stable.drw {D : DA} {n : Nat} : Stable (TD D) (Drw D n) := ⟨fun w g => w.grow g, fun w x => w.put x, fun w x => w.give x⟩
theorem Paired.snoc {α β : Type} {F : α → β → Prop} : ∀ {xs : List α} {ys : List β} {x : α} {y : β}, Paired F xs ys → F x y → Paired F (xs ++ [x]) (ys ++ [y])
  | _, _, _, _, .nil, h => .cons h .nil
  | _, _, _, _, .cons a t, h => .cons a (Paired.snoc t h)
theorem Paired.at {α β : Type} {F : α → β → Prop} : ∀ {xs : List α} {ys : List β} {i : Nat} {y : β}, Paired F xs ys → ys[i]? = some y → ∃ x, xs[i]? = some x ∧ F x y
  | _, _, _, _, .nil, h => by simp at h
  | _, _, 0, _, .cons a t, h => by simp at h; subst h; exact ⟨_, rfl, a⟩
  | _, _, i + 1, _, .cons a t, h => by
    obtain ⟨x, h1, h2⟩ := Paired.at (i := i) t (by simpa using h)
    exact ⟨x, by simpa using h1, h2⟩
theorem Paired.at' {α β : Type} {F : α → β → Prop} : ∀ {xs : List α} {ys : List β} {i : Nat} {x : α}, Paired F xs ys → xs[i]? = some x → ∃ y, ys[i]? = some y ∧ F x y
  | _, _, _, _, .nil, h => by simp at h
  | _, _, 0, _, .cons a t, h => by simp at h; subst h; exact ⟨_, rfl, a⟩
  | _, _, i + 1, _, .cons a t, h => by
    obtain ⟨x, h1, h2⟩ := Paired.at' (i := i) t (by simpa using h)
    exact ⟨x, by simpa using h1, h2⟩
theorem Paired.len {α β : Type} {F : α → β → Prop} : ∀ {xs : List α} {ys : List β}, Paired F xs ys → xs.length = ys.length
  | _, _, .nil => rfl
  | _, _, .cons a t => congrArg (· + 1) (Paired.len t)
theorem lc_yes {te : TE} {σ : L2.St} {H : Hp} {Ky : VK} {Kn : Hp → Prop} (h : te σ H Ky) : tYes σ H (fun b H3 => if b = true then te σ H3 Ky else Kn H3) := by
  show (if true = true then te σ H Ky else Kn H)
  rw [if_pos rfl]
  exact h
section
variable {β : Type} [Rep β] {J : It} {n : Nat} {G : Hp → Prop} {Y : Nat → Hp → V → Hp → Prop} {T : Addr → Prop} {I H1 : Hp} {L : Addr} {g : TG} {tt : TT} {te : TE} {vs : List Nat} {σ : L2.St} {Qd : Hp → Prop}
/-- a comprehension over anything that is walked -/
theorem lc_gen (w : Walk J n G Y) (R : Nat → Hp → Hp → Prop) (hR : ∀ i, Stable T (R i)) (sub : Same I H1) (hT : ∀ b, T b → H1 b ≠ none) (hL : H1 L = none) (r0 : R 0 I H1) (hn : n ≤ 16777216)
    (hG : ∀ i I' H', Grow T I H1 I' H' → R i I' H' → G H') (P : Nat → Option β → Prop)
    (step : ∀ i x I' H' H'', i < n → Grow T I H1 I' H' → R i I' H' → Y i H' x H'' → ∀ (Kn : Hp → Prop) (Ky : V → Hp → Prop), (P i none → ∀ I2 H2, Grow T I' H' I2 H2 → R (i + 1) I2 H2 → Kn H2) →
      (∀ y, P i (some y) → ∀ v I2 H2, Grow T I' H' I2 H2 → R (i + 1) I2 H2 → Rep.is I2 v y → Ky v H2) →
      g x (wipe σ vs) H'' fun σ2 H2 => wipe σ2 vs = wipe σ vs ∧ tt σ2 H2 fun b H3 => if b = true then te σ2 H3 Ky else Kn H3)
    (done : ∀ (os : List (Option β)) I' H' vs', os.length = n → (∀ i o, os[i]? = some o → P i o) → Grow T I H1 I' H' → R n I' H' → Own T H1 L (.lst vs') I' H' → Paired (Rep.is I') vs' (os.filterMap id) → Qd H') :
    ∃ W : Nat → Nat → Hp → Prop, (∃ m, W 0 m (upd H1 L (.lst []))) ∧ ∀ i m H, W i m H →
      (J.stop i H ∧ Qd H) ∨ (J.go i H ∧ ∃ Nx : Hp → Prop, (∀ H', Nx H' → ∃ m', m' < m ∧ W (i + 1) m' H') ∧ ∀ x H', J.yld i H x H' → g x (wipe σ vs) H' fun σ2 H2 => wipe σ2 vs = wipe σ vs ∧ tt σ2 H2 fun b H3 =>
        if b = true then te σ2 H3 fun y H4 => ∃ acc, H4 L = some (.lst acc) ∧ acc.length < sizeLine ∧ Nx (upd H4 L (.lst (acc ++ [y]))) else Nx H3) := by
  refine lc_it w (fun i H => i ≤ n ∧ ∃ I' acc, ∃ os : List (Option β), Grow T I H1 I' H ∧ R i I' H ∧ Own T H1 L (.lst acc) I' H ∧ os.length = i ∧ acc.length ≤ i ∧ (∀ j o, os[j]? = some o → P j o) ∧ Paired (Rep.is I') acc (os.filterMap id))
    ⟨Nat.zero_le _, I, [], [], Grow.mine sub hL, (hR 0).grow r0 (Grow.mine sub hL), Own.new sub (.inl (Same.refl H1)) hT hL, rfl, Nat.le_refl _, fun j o e => by simp at e, .nil⟩ (fun i H _ ⟨_, I', _, _, g1, r1, _⟩ => hG i I' H g1 r1) ?_ ?_
  · rintro i x H H' hi ⟨_, I', acc, os, g1, r1, ow, hl, ha, hP, hp⟩ y
    have hz : acc.length < sizeLine := by rw [sizeLine_eq]; omega
    refine step i x I' H H' hi g1 r1 y (fun H3 => i + 1 ≤ n ∧ ∃ I' acc, ∃ os : List (Option β), Grow T I H1 I' H3 ∧ R (i + 1) I' H3 ∧ Own T H1 L (.lst acc) I' H3 ∧ os.length = i + 1 ∧ acc.length ≤ i + 1 ∧ (∀ j o, os[j]? = some o → P j o) ∧ Paired (Rep.is I') acc (os.filterMap id)) _ (fun h0 I2 H2 g2 r2 => ?_) (fun z hz2 v I2 H2 g2 r2 hv => ?_)
    · refine ⟨hi, I2, acc, os ++ [none], g1.trans g2, r2, ow.grow g2, by simp [hl], by omega, fun j o e => ?_, ?_⟩
      · rw [List.getElem?_append] at e
        split at e
        · exact hP j o e
        · rename_i hj
          cases q : j - os.length with
          | zero =>
            rw [q] at e
            simp at e; subst e
            have : j = i := by omega
            rw [this]; exact h0
          | succ k => rw [q] at e; simp at e
      · rw [List.filterMap_append]
        simp only [List.filterMap_cons, List.filterMap_nil, id, List.append_nil]
        exact Paired.mono' (fun _ _ z => Rep.mono g2.view z) hp
    · have ow2 := ow.grow g2
      refine ⟨acc, ow2.at_, hz, hi, I2, acc ++ [v], os ++ [some z], (g1.trans g2).put ow2, (hR _).put r2 ow2, ow2.put, by simp [hl], by simp; omega, fun j o e => ?_, ?_⟩
      · rw [List.getElem?_append] at e
        split at e
        · exact hP j o e
        · rename_i hj
          cases q : j - os.length with
          | zero =>
            rw [q] at e
            simp at e; subst e
            have : j = i := by omega
            rw [this]; exact hz2
          | succ k => rw [q] at e; simp at e
      · rw [List.filterMap_append]
        exact Paired.snoc (Paired.mono' (fun _ _ z => Rep.mono g2.view z) hp) hv
  · rintro H ⟨_, I', acc, os, g1, r1, ow, hl, ha, hP, hp⟩
    exact done os I' H acc hl hP g1 r1 ow hp
end
theorem os_eq {α β : Type} {f : α → β} : ∀ {xs : List α} {os : List β}, os.length = xs.length → (∀ (i : Nat) (o : β), os[i]? = some o → ∃ x, xs[i]? = some x ∧ o = f x) → os = xs.map f
  | [], [], _, _ => rfl
  | [], _ :: _, h, _ => by simp at h
  | _ :: _, [], h, _ => by simp at h
  | x :: xs, o :: os, h, hP => by
    obtain ⟨z, h1, h2⟩ := hP 0 o rfl
    simp at h1
    subst h1
    rw [List.map_cons, h2, os_eq (f := f) (xs := xs) (os := os) (by simpa using h) fun i o' e => hP (i + 1) o' (by simpa using e)]
theorem fm_id {α β : Type} {f : α → Option β} (xs : List α) : (xs.map f).filterMap id = xs.filterMap f := by
  rw [List.filterMap_map]
  rfl
theorem Paired.ints {I : Hp} : ∀ {vs : List V} {ns : List Int}, Paired (Rep.is I) vs ns → vs = ns.map V.int
  | _, _, .nil => rfl
  | _, _, .cons h t => by
    have e : _ = V.int _ := h
    rw [List.map_cons, e, Paired.ints t]
theorem Paired.bls {I : Hp} : ∀ {vs : List V} {ns : List Bool}, Paired (Rep.is I) vs ns → vs = ns.map V.bl
  | _, _, .nil => rfl
  | _, _, .cons h t => by
    have e : _ = V.bl _ := h
    rw [List.map_cons, e, Paired.bls t]
theorem Paired.strs {I : Hp} : ∀ {vs : List V} {ns : List Str}, Paired (Rep.is I) vs ns → vs = ns.map V.str
  | _, _, .nil => rfl
  | _, _, .cons h t => by
    have e : _ = V.str _ := h
    rw [List.map_cons, e, Paired.strs t]
section
variable {α β : Type} [Rep β] {J : It} {n : Nat} {G : Hp → Prop} {Y : Nat → Hp → V → Hp → Prop} {I H1 : Hp} {L : Addr} {g : TG} {tt : TT} {te : TE} {vs : List Nat} {σ : L2.St} {Qd : Hp → Prop}
/-- a comprehension that only makes: its list is xs.filterMap f -/
theorem lc_pure (w : Walk J n G Y) (xs : List α) (f : α → Option β) (hx : xs.length = n) (sub : Same I H1) (hL : H1 L = none) (hn : n ≤ 16777216) (hG : ∀ I' H', Grow No I H1 I' H' → G H')
    (step : ∀ i x v I' H' H'', xs[i]? = some x → Grow No I H1 I' H' → Y i H' v H'' → ∀ (Kn : Hp → Prop) (Ky : V → Hp → Prop), (f x = none → ∀ I2 H2, Grow No I' H' I2 H2 → Kn H2) →
      (∀ y, f x = some y → ∀ v I2 H2, Grow No I' H' I2 H2 → Rep.is I2 v y → Ky v H2) →
      g v (wipe σ vs) H'' fun σ2 H2 => wipe σ2 vs = wipe σ vs ∧ tt σ2 H2 fun b H3 => if b = true then te σ2 H3 Ky else Kn H3)
    (done : ∀ I' H' vs', Grow No I H1 I' H' → Own No H1 L (.lst vs') I' H' → Paired (Rep.is I') vs' (xs.filterMap f) → Qd H') :
    ∃ W : Nat → Nat → Hp → Prop, (∃ m, W 0 m (upd H1 L (.lst []))) ∧ ∀ i m H, W i m H →
      (J.stop i H ∧ Qd H) ∨ (J.go i H ∧ ∃ Nx : Hp → Prop, (∀ H', Nx H' → ∃ m', m' < m ∧ W (i + 1) m' H') ∧ ∀ x H', J.yld i H x H' → g x (wipe σ vs) H' fun σ2 H2 => wipe σ2 vs = wipe σ vs ∧ tt σ2 H2 fun b H3 =>
        if b = true then te σ2 H3 fun y H4 => ∃ acc, H4 L = some (.lst acc) ∧ acc.length < sizeLine ∧ Nx (upd H4 L (.lst (acc ++ [y]))) else Nx H3) := by
  refine lc_gen (T := No) w (fun _ _ _ => True) (fun _ => Stable.triv) sub (fun _ z => z.elim) hL trivial hn (fun _ I' H' g _ => hG I' H' g) (fun i o => ∃ x, xs[i]? = some x ∧ o = f x) ?_ ?_
  · intro i v I' H' H'' hi g1 _ y Kn Ky kn ky
    have hi' : i < xs.length := by omega
    have hx' : xs[i]? = some xs[i] := List.getElem?_eq_getElem hi'
    exact step i _ v I' H' H'' hx' g1 y Kn Ky (fun e I2 H2 g2 => kn ⟨_, hx', e.symm⟩ I2 H2 g2 trivial) fun z e v I2 H2 g2 r => ky z ⟨_, hx', e.symm⟩ v I2 H2 g2 trivial r
  · intro os I' H' vs' hl hP g1 _ ow hp
    have e : os.filterMap id = xs.filterMap f := by
      rw [os_eq (f := f) (by omega) hP, fm_id]
    rw [e] at hp
    exact done I' H' vs' g1 ow hp
end
theorem sum_ones {α : Type} : ∀ l : List α, (l.map (fun _ => 1)).sum = l.length
  | [] => rfl
  | x :: r => by
    rw [List.map_cons, List.sum_cons, sum_ones r, List.length_cons]
    omega
theorem fm_some {α β : Type} {f : α → β} (xs : List α) : xs.filterMap (fun x => some (f x)) = xs.map f := by
  induction xs with
  | nil => rfl
  | cons x r ih => rw [List.filterMap_cons, List.map_cons, ih]
theorem take_fold {α β : Type} {f : β → α → β} {b : β} {l : List α} {i : Nat} {x : α} (h : l[i]? = some x) : (l.take (i + 1)).foldl f b = f ((l.take i).foldl f b) x := by
  rw [List.take_add_one, h, List.foldl_append]
  rfl
theorem mem_take {α : Type} {l : List α} {i : Nat} {r : α} (h : l[i]? = some r) {x : α} : x ∈ l.take (i + 1) ↔ x ∈ l.take i ∨ x = r := by
  rw [List.take_add_one, h, List.mem_append]
  simp
end Nw

namespace Nw
open PySem PySem.Spec PyProof.Rows L2
/-! ### texts as lists of signs -/
def mk (l : List Nat) : Str := ⟨l.toArray⟩
abbrev sg (c : Nat) : Str := ⟨#[c]⟩
theorem mk_sg (c : Nat) : mk [c] = sg c := rfl
theorem mk_list (s : Str) : mk s.cps.toList = s := rfl
theorem mk_app (a b : List Nat) : mk a ++ mk b = mk (a ++ b) := by
  show (⟨a.toArray ++ b.toArray⟩ : Str) = ⟨(a ++ b).toArray⟩
  simp
theorem mk_inj {a b : List Nat} (h : mk a = mk b) : a = b := by
  have z := congrArg (fun s : Str => s.cps.toList) h
  simpa [mk] using z
theorem mk_len (a : List Nat) : (mk a).length = a.length := by simp [mk, Str.length]
theorem mk_cps (a : List Nat) : (mk a).cps.toList = a := by simp [mk]
theorem mk_nil : mk [] = ("" : Str) := rfl
theorem join_signs : ∀ cs : List Nat, Txt.join ("" : Str) (cs.map sg) = mk cs := by
  intro cs
  unfold Txt.join
  rw [StrLaws.glued_eq_join]
  induction cs with
  | nil => rfl
  | cons c r ih =>
    cases r with
    | nil => rfl
    | cons d t =>
      show sg c ++ ("" : Str) ++ Str.join ("" : Str) ((d :: t).map sg) = mk (c :: d :: t)
      rw [ih]
      rw [← mk_nil, ← mk_sg, mk_app, mk_app] <;> rfl
theorem upper_sg {c : Nat} (h : c < 128) : Txt.upper (sg c) = sg (up1 c) := by
  rw [upper_ascii (by intro d hd; simp at hd; omega)]
  simp [sg]
theorem lower_sg {c : Nat} (h : c < 128) : Txt.lower (sg c) = sg (lo1 c) := by
  rw [lower_ascii (by intro d hd; simp at hd; omega)]
  simp [sg]
theorem upper_mk {l : List Nat} (h : ∀ c ∈ l, c < 128) : Txt.upper (mk l) = mk (l.map up1) := by
  rw [upper_ascii (by rw [mk_cps]; exact h)]
  simp [mk]
/-! ### z[::-1] -/
def tRevS (te : TE) : TE := fun σ H Q => te σ H fun x H1 => ∃ l : List Nat, x = .str (mk l) ∧ l.length ≤ 16777216 ∧ Q (.str (mk l.reverse)) H1
theorem rev_pick (z : Str) : (Builtin.Str.strSliceIndices none none (-1) z.length).filterMap (z.cps[·]?) = z.cps.toList.reverse := by
  have e : Builtin.Str.strSliceIndices none none (-1) z.length = (List.range z.cps.size).reverse := by
    unfold Builtin.Str.strSliceIndices
    show sliceRange ((z.cps.size : Int) - 1) (-1) (-1) = _
    rw [PySem.W.krv_sliceRange, PySem.W.krv_range]
  rw [e, List.filterMap_reverse, PySem.W.krv_all]
theorem pe_revS {X : Cx} {e : Expr} {te : TE} {k : Nat} {p1 p2 p3 pos : Pos} (he : PE X e te) : PE X (.Subscript e (.Slice none none (some (.UnaryOp .USub (.Constant (.int 1) k p1) p2)) p3) pos) (tRevS te) := by
  refine ⟨fun pins s σ H Q I h => Subscript_ (wpAny_mono (he.run pins s σ H _ I h) (fun v s1 hv => ?_) fun _ _ z => z)⟩
  obtain ⟨x, H1, I1, r1, l, ex, hz, q⟩ := hv
  subst ex
  obtain ⟨t, rfl⟩ := r1
  have hst : PO X (some (.UnaryOp .USub (.Constant (.int 1) k p1) p2)) (tPart (tUn (rU fun i => .int (-i)) (tC (.int 1)))) := po_some (pe_un un_neg pe_int)
  refine wpAny_Slice (wpAny_mono (po_none.run pins s1 σ H1 (fun o H2 => o = none ∧ H2 = H1) I1 ⟨rfl, rfl⟩) (fun vl s2 h2 => ?_) fun _ _ z => z)
  obtain ⟨lo, H2, I2, pl, el, e2⟩ := h2
  subst el e2
  refine wpAny_mono (po_none.run pins s2 σ H2 (fun o H3 => o = none ∧ H3 = H2) I2 ⟨rfl, rfl⟩) (fun vu s3 h3 => ?_) fun _ _ z => z
  obtain ⟨hi, H3, I3, pu, eu, e3⟩ := h3
  subst eu e3
  refine wpAny_mono (hst.run pins s3 σ H3 (fun o H4 => o = some (-1) ∧ H4 = H3) I3 ⟨1, rfl, -1, rfl, rfl, rfl⟩) (fun vs s4 h4 => ?_) fun _ _ z => z
  obtain ⟨o, H4, I4, ps, eo, e4⟩ := h4
  subst eo e4
  obtain ⟨l1, rfl, e1⟩ := IsPart.raw pl
  obtain ⟨u1, rfl, e2⟩ := IsPart.raw pu
  obtain ⟨t1, rfl, e3⟩ := IsPart.raw ps
  have I5 : Inv X pins σ H4 { s4 with heap := s4.heap.push { cls := .type "slice", data := .fields #[partValue l1, partValue u1, partValue t1] } } := I4.kept (t' := s4.toks) fun b ob q => Heap.get?_push_of_some _ q
  refine tail_any (ops := [.ref s4.heap.objs.size, .str (mk l) t]) (typeIs_str _ _ _) PySem.F.slot_str_getitem.lookup ?_ (by with_unfolding_all rfl)
  refine wpAny_getItem_str_slice (l := l1) (u := u1) (st := t1) ⟨_, Heap.get?_push_size _ rfl, rfl, rfl⟩ (by rw [e3]; rfl) ?_
  unfold sliceMade slicePicked
  rw [e3, e1, e2]
  rw [if_neg (by intro z; exact Bool.noConfusion z)]
  show Made.post (Made.str ⟨((Builtin.Str.strSliceIndices none none (-1) (mk l).length).filterMap ((mk l).cps[·]?)).toArray⟩) (EP X pins σ Q) _
  rw [rev_pick, mk_cps]
  refine ⟨?_, .str (mk l.reverse), H4, I5.tok _, ⟨_, rfl⟩, q⟩
  show (mk l.reverse).length ≤ sizeLine
  rw [mk_len, List.length_reverse, sizeLine_eq]
  exact hz
end Nw

namespace Nw
open PySem PySem.Spec PyProof.Rows L2
theorem atI_rev {α : Type} (st : List α) (j : Nat) (i : Int) (hi : i = -(j : Int) - 1) : atI st.reverse i = st[j]? := by
  subst hi
  unfold atI ixN
  rw [if_neg (by omega), List.length_reverse]
  by_cases h : j < st.length
  · rw [if_pos (by omega)]
    have e : (-(j : Int) - 1 + (st.length : Int)).toNat = st.length - 1 - j := by omega
    rw [e]
    show st.reverse[st.length - 1 - j]? = st[j]?
    rw [List.getElem?_reverse (by omega)]
    congr 1
    omega
  · rw [if_neg (by omega), List.getElem?_eq_none (by omega)]
    rfl
theorem atI_nat' {α : Type} {xs : List α} {j : Nat} {i : Int} (hi : i = (j : Int)) : atI xs i = xs[j]? := by
  subst hi
  unfold atI ixN
  rw [if_pos (by omega)]
  by_cases h : j < xs.length
  · rw [if_pos (by omega)]
    rfl
  · rw [if_neg (by omega), List.getElem?_eq_none (by omega)]
    rfl
theorem cut_rev2 (st : List V) (h : 2 ≤ st.length) : cutV st.reverse none (some (-2)) = (st.drop 2).reverse := by
  unfold cutV
  have e1 : HT.sIx st.reverse.length st.reverse.length (some (-2)) = ((-2 : Int) + (st.reverse.length : Int)).toNat := by
    show (if (-2 : Int) < 0 then ((-2 : Int) + (st.reverse.length : Int)).toNat else min (-2 : Int).toNat st.reverse.length) = _
    rw [if_pos (by decide)]
  have e2 : HT.sIx st.reverse.length 0 none = 0 := rfl
  rw [e1, e2, List.drop_zero, List.length_reverse, Nat.sub_zero]
  have e : ((-2 : Int) + (st.length : Int)).toNat = st.length - 2 := by omega
  rw [e, List.take_reverse]
  congr 1
  congr 1
  omega
/-- a dict comprehension over anything that is walked -/
theorem dc_it {J : It} {n : Nat} {G : Hp → Prop} {Y : Nat → Hp → V → Hp → Prop} (w : Walk J n G Y) {g : TG} {tt : TT} {tk tv : TE} {vs : List Nat} {σ : L2.St} {H1 : Hp} {D : Addr} {Qd : Hp → Prop} (Pv : Nat → Hp → Prop) (h0 : Pv 0 (upd H1 D (.dK []))) (hG : ∀ i H, i ≤ n → Pv i H → G H)
    (hs : ∀ i x H H', i < n → Pv i H → Y i H x H' → g x (wipe σ vs) H' fun σ2 H2 => wipe σ2 vs = wipe σ vs ∧ tt σ2 H2 fun b H3 =>
      if b = true then tk σ2 H3 fun y H4 => tv σ2 H4 fun z H5 => ∃ kvs k, y = kV k ∧ H5 D = some (.dK kvs) ∧ kvs.length < sizeLine ∧ Pv (i + 1) (upd H5 D (.dK (putK kvs k z))) else Pv (i + 1) H3) (hd : ∀ H, Pv n H → Qd H) :
    ∃ W : Nat → Nat → Hp → Prop, (∃ m, W 0 m (upd H1 D (.dK []))) ∧ ∀ i m H, W i m H →
      (J.stop i H ∧ Qd H) ∨ (J.go i H ∧ ∃ Nx : Hp → Prop, (∀ H', Nx H' → ∃ m', m' < m ∧ W (i + 1) m' H') ∧ ∀ x H', J.yld i H x H' → g x (wipe σ vs) H' fun σ2 H2 => wipe σ2 vs = wipe σ vs ∧ tt σ2 H2 fun b H3 =>
        if b = true then tk σ2 H3 fun y H4 => tv σ2 H4 fun z H5 => ∃ kvs k, y = kV k ∧ H5 D = some (.dK kvs) ∧ kvs.length < sizeLine ∧ Nx (upd H5 D (.dK (putK kvs k z))) else Nx H3) := by
  refine ⟨fun i m H => m = n - i ∧ i ≤ n ∧ Pv i H, ⟨n, (Nat.sub_zero n).symm, Nat.zero_le n, h0⟩, ?_⟩
  rintro i m H ⟨em, hi, p⟩
  have q := hG i H hi p
  rcases Nat.lt_or_ge i n with hlt | hge
  · refine .inr ⟨w.goes i H hlt q, Pv (i + 1), fun H' p' => ⟨n - (i + 1), by omega, rfl, hlt, p'⟩, fun x H' y => ?_⟩
    exact hs i x H H' hlt p (w.yields i H x H' hlt q y)
  · have e : i = n := by omega
    subst e
    exact .inl ⟨w.stops H q, hd H p⟩
/-- d == {} -/
def rDNilE : R2 := fun x y H Q => ∃ a b ks, x = .ref a ∧ y = .ref b ∧ H a = some (.dK ks) ∧ H b = some (.dK []) ∧ Q (.bl ks.isEmpty) H
theorem op_eqDNil {X : Cx} (hu : X.A.units + 64 < cLine) : OpR X (compareOp .Eq) rDNilE := by
  intro pins s σ H x y v u Q I rx ry h
  obtain ⟨a, b, ks, rfl, rfl, ea, eb, q⟩ := h
  obtain rfl : v = Value.ref a := rx
  obtain rfl : u = Value.ref b := ry
  obtain ⟨_, ya, va, ra, da⟩ := (show ObjOk X.prog X.w H s.heap a (.dK ks) from I.hok a _ ea)
  obtain ⟨_, yb, vb, rb, db⟩ := (show ObjOk X.prog X.w H s.heap b (.dK []) from I.hok b _ eb)
  cases rb
  have hu' : X.A.units < cLine := Nat.lt_of_le_of_lt (Nat.le_add_right _ _) hu
  refine PySem.W.keq_eq (knd := mixKind X.prog X.w) (r := true) ya yb da db hu' (fun e => ?_) (fin_bl I q ?_)
  · cases ra with
    | nil => exact .nil
    | cons p t => cases e
  · cases ra with
    | nil => rfl
    | cons p t => rfl
end Nw

namespace Nw
open PySem PySem.Spec PyProof.Rows L2
variable {X : Cx}
theorem pe_gref {x : Str} {pos : Pos} {f : Addr} (h : X.mg x = some (.ref f)) (hg : Gl X x := by rfl) (hd : (x == ("__debug__" : Str)) = false := by decide) : PE X (.Name x pos) (tC (.ref f)) := pe_glob hg h rfl hd
/-! the rules that name the written part, for a comprehension's block -/
section
variable {K : PySem.W.Frag} (h : X.K = K)
include h
theorem call_isiK : CallR X (.builtin "isinstance") (rIsi K) := h ▸ call_isi
theorem ix_listK : IxR X (rIxL K) := h ▸ ix_list
theorem ix_tupK : IxR X (rIxT K) := h ▸ ix_tup
theorem op_in_seqK : OpR X (compareOp .In) (rIn K false) := h ▸ op_in_seq
theorem op_notIn_seqK : OpR X (compareOp .NotIn) (rIn K true) := h ▸ op_notIn_seq
theorem cr_allK (hc : X.calm = true) : CallR X (.builtin "all") (rAll K) := h ▸ cr_all hc
theorem cr_anyK (hc : X.calm = true) : CallR X (.builtin "any") (rAny K) := h ▸ cr_any hc
theorem call_len_seqK : CallR X (.builtin "len") (fun xs H Q => ∃ p ys, xs = [.ref p] ∧ (SqL K H p ys ∨ SqT K H p ys) ∧ Q (.int ys.length) H) := h ▸ call_len_seq
theorem pe_fldK {e : Expr} {f : Str} {pos : Pos} {ta : TE} (he : PE X e ta) (hb : attributeBase e f X.env (eval e X.env) = eval e X.env) : PE X (.Attribute e f pos) (tFld K ta f) := h ▸ pe_fld he hb
end
/-- list(text): its signs -/
theorem call_list_sg (hc : X.calm = true) : CallR X (.type "list") (fun xs H Q => ∃ l : List Nat, xs = [.str (mk l)] ∧ l.length ≤ 16777216 ∧ ∀ p, H p = none → Q (.ref p) (upd H p (.lst (l.map fun c => V.str (sg c))))) := by
  intro pins s σ H xs us Q I r h
  obtain ⟨l, rfl, hz, q⟩ := h
  obtain ⟨u, rfl, t, rfl⟩ := vals1 r
  have hsz : (mk l).cps.size = l.length := by simp [mk]
  refine PySem.call_list_str (I.ok.hd hc) (mk l) t (fun h' tk acc' c' hkeep hS hacc => ?_) (by rw [hsz, sizeLine_eq]; exact hz)
  refine ⟨.ref s.heap.objs.size, upd H s.heap.objs.size (.lst (l.map fun c => V.str (sg c))), I.laid hkeep (Nat.le_refl _) ⟨?_, acc'.toList, c', ?_, ?_⟩, rfl, q _ (I.hok.fresh (Nat.le_refl _))⟩
  · rw [List.length_map, sizeLine_eq]; exact hz
  · have h0 : acc'.size = l.length := hacc.1.trans hsz
    refine vals_of_at (by rw [List.length_map]; exact h0.symm.trans (Array.length_toList (xs := acc')).symm) fun j x w h1 h2 => ?_
    have h3 := hacc.2 j w (by rw [← Array.getElem?_toList]; exact h2)
    obtain ⟨c, t', e1, rfl⟩ := h3
    have e2 : l[j]? = some c := by simpa [mk] using e1
    have e3 : x = .str (sg c) := by
      have z : (l.map fun c => V.str (sg c))[j]? = some (.str (sg c)) := by rw [List.getElem?_map, e2]; rfl
      rw [z] at h1
      cases h1
      rfl
    rw [e3]
    exact ⟨t', rfl⟩
  · simpa using hS
end Nw

namespace Nw
open PySem PySem.Spec PyProof.Rows L2
/-! ### an object that is made, then given out -/
section
variable {D : DA} {n : Nat} {T T' : Addr → Prop} {I H I' H' I0 H0 I3 H3 : Hp} {x dx : Addr} {o o1 o2 : HO}
theorem DrS.growT {dig tn : Int} {gs ls : List Int} (s : DrS D dig tn gs ls I H) (g : Grow T I H I' H') (h : ∀ b, TD D b → ¬ T b) : DrS D dig tn gs ls I' H' :=
  ⟨g.sub, g.fresh _ s.vd (s.live _ (.inl rfl)), g.fresh _ s.vg (s.live _ (.inr (.inl rfl))), g.fresh _ s.vl (s.live _ (.inr (.inr rfl))), s.dg, s.dl, s.gl, g.keep _ _ (h _ (.inl rfl)) s.hd, g.keep _ _ (h _ (.inr (.inl rfl))) s.hg, g.keep _ _ (h _ (.inr (.inr rfl))) s.hl⟩
theorem Drw.growT (w : Drw D n I H) (g : Grow T I H I' H') (h : ∀ b, TD D b → ¬ T b) : Drw D n I' H' := let ⟨a, b, c, d, s, r⟩ := w.ex; ⟨a, b, c, d, s.growT g h, r⟩
theorem Drw.view (w : Drw D n I H) (nt : ¬ TD D x) (h : H x = some o) : Drw D n (upd I x o) H := by
  obtain ⟨a, b, c, d, s, r⟩ := w.ex
  refine ⟨a, b, c, d, ⟨fun q u e => ?_, ?_, ?_, ?_, s.dg, s.dl, s.gl, s.hd, s.hg, s.hl⟩, r⟩
  · by_cases z : q = x
    · subst z; rw [upd_same] at e; rw [h]; exact e
    · rw [upd_ne z] at e; exact s.sub q u e
  · rw [upd_ne fun z => nt (.inl z.symm)]; exact s.vd
  · rw [upd_ne fun z => nt (.inr (.inl z.symm))]; exact s.vg
  · rw [upd_ne fun z => nt (.inr (.inr z.symm))]; exact s.vl
theorem Drw.chg (w : Drw D n I H) (nt : ¬ TD D x) (ni : I x = none) : Drw D n I (upd H x o) := let ⟨a, b, c, d, s, r⟩ := w.ex; ⟨a, b, c, d, s.put nt ni, r⟩
theorem Drw.mine (w : Drw D n I H) (h : H x = none) : Drw D n I (upd H x o) := w.grow (Grow.mine w.sub h)
theorem Drw.not (w : Drw D n I H) (h : H x = none) : ¬ TD D x := fun t => w.live x t h
theorem grow_made (sb : Same I H) (hx : H x = none) (hdx : H dx = none) (ne : dx ≠ x) : Grow T I H I (upd (upd H dx o1) x o2) :=
  (Grow.mine sb hdx).trans (Grow.mine (Grow.mine (T := T) (o := o1) sb hdx).sub (by rw [upd_ne ne.symm]; exact hx))
theorem live_none {T : Addr → Prop} (g : Grow T I0 H0 I H) (h : H x = none) : H0 x = none := by
  cases e : H0 x with
  | none => rfl
  | some u => exact absurd h (g.live x (by rw [e]; exact fun z => nomatch z))
/-- what C(..) does, seen from H0 -/
theorem Grow.make (g : Grow T I0 H0 I H) (hx : H x = none) (hdx : H dx = none) (ne : dx ≠ x) (g3 : Grow T' I (upd (upd H dx o1) x o2) I3 H3) (hT : ∀ b, T' b → T b ∨ H0 b = none) (h : H3 x = some o) (nt : NTb o := by intro _ z; cases z) : Grow T I0 H0 (upd I3 x o) H3 ∧ I3 x = none := by
  have gm : Grow T I0 H0 I (upd (upd H dx o1) x o2) := g.trans (grow_made g.sub hx hdx ne)
  have gd := gm.drop g3 hT
  have n3 : I3 x = none := g3.fresh x (g.sub.free hx) (by rw [upd_same]; exact fun z => nomatch z)
  exact ⟨gd.give' (live_none g hx) n3 h nt, n3⟩
theorem Drw.make (w : Drw D n I H) (hx : H x = none) (hdx : H dx = none) (ne : dx ≠ x) (g3 : Grow T' I (upd (upd H dx o1) x o2) I3 H3) (hT : ∀ b, TD D b → ¬ T' b) (h : H3 x = some o) : Drw D n (upd I3 x o) H3 :=
  (((w.mine hdx).mine (by rw [upd_ne ne.symm]; exact hx)).growT g3 hT).view (w.not hx) h
end
/-- a def that is asked by its own data -/
theorem okd_of {P : Program} {w : World} {K : PySem.W.Frag} {mg : Str → Option Value} {base : Heap} {k : Nat} {f : Addr} {fd : FuncData} {ps : List Str} {sp : Sp} {x qual : Str} {st : Stmt} {N : List Str}
    (F : FunD K x qual (defArgs st) (defBody st) (defScope st) [] [] f fd) (S : FnScope N ps (defScope st)) (len : ∀ vs H Q E, sp vs H Q E → vs.length = ps.length)
    (hbody : ∀ (cdv : Value) (A : Around) (outer : List Env) (s : Shared) (H : Hp) (vs : List V) (Q : VK) (E : XK), Room k (A.deeper (envOfC qual (defScope st) s.heap.objs.size f cdv)) → sp vs H Q E →
      ∃ t, PSs (cxOf CX0 P w K mg base N qual (defScope st) f cdv A outer s H E).nox (defBody st) t ∧ t { nx := fun _ H' => Q .non H', rt := Q } (start N vs) H) : FnOk P w K mg base CX0 (k + 1) f fd ps sp :=
  F.ok S len fun cdv A outer s H vs Q E hr h => by
    obtain ⟨t, h1, h2⟩ := hbody cdv A outer s H vs Q E hr h
    exact ⟨t, h1.nox, h2⟩
end Nw

namespace Nw
open PySem PySem.Spec PyProof.Rows L2
/-! ### operators that a class of the text has itself -/
section
variable {X : Cx} {k : Nat} {f C : Addr} {fd : FuncData} {ps : List Str} {sp : Sp}
/-- two instances of one class -/
def rOwn (C : Addr) (sp : Sp) : R2 := fun x y H Q => ∃ a b dx dy fs gs, x = .ref a ∧ y = .ref b ∧ H a = some (.ins C dx fs) ∧ H b = some (.ins C dy gs) ∧ sp [.ref a, .ref b] H (fun v H' => ∃ p, v = .ref p ∧ Q v H') E0
theorem op_own {op : Operator} {nm : Str} (M : Meth X.K C nm f) (he : PySem.dunder op.info.2 = nm) (hc : PySem.W.selfFirst X.K C = true) (F : FnOk X.prog X.w X.K X.mg X.base CX0 k f fd ps sp) (hr : Room k X.A) (hb : Binds X.K fd ps []) : OpR X (binaryOp op) (rOwn C sp) := by
  intro pins s σ H x y v u Q I rx ry h
  obtain ⟨a, b, dx, dy, fs, gs, rfl, rfl, ha, hb', q⟩ := h
  cases rx
  cases ry
  obtain ⟨mA, J, _⟩ := ins_get I.hok ha
  obtain ⟨mB, J', _⟩ := ins_get I.hok hb'
  obtain ⟨od, J, _⟩ := J.look
  obtain ⟨od', J', _⟩ := J'.look
  obtain ⟨m, hF⟩ := I.fr
  refine PySem.W.binop_K hF I.ok.mod.kin J J'.type hc (by rw [he]; exact M.at_) M.fn ?_
  have r2 : Vals [V.ref a, V.ref b] [Value.ref a, Value.ref b] := .cons rfl (.cons rfl .nil)
  refine wpAny_mono (run_fn (dvs := []) (ds := []) (E := E0) F hr hb .nil pass0 I r2 q) (fun v s' hq => ?_) fun _ _ e => e
  obtain ⟨z, H', I', rz, p, rfl, q⟩ := hq
  cases rz
  exact ⟨.ref p, _, I', rfl, q⟩
def rOwn1 (C : Addr) (sp : Sp) : V → Hp → VK → Prop := fun x H Q => ∃ a dx fs, x = .ref a ∧ H a = some (.ins C dx fs) ∧ sp [.ref a] H Q E0
theorem un_own_inv (M : Meth X.K C "__invert__" f) (F : FnOk X.prog X.w X.K X.mg X.base CX0 k f fd ps sp) (hr : Room k X.A) (hb : Binds X.K fd ps []) : UnR X (unaryOp .Invert) (rOwn1 C sp) := by
  intro pins s σ H x v Q I rx h
  obtain ⟨a, dx, fs, rfl, ha, q⟩ := h
  cases rx
  obtain ⟨mA, J, _⟩ := ins_get I.hok ha
  obtain ⟨od, J, _⟩ := J.look
  obtain ⟨m, hF⟩ := I.fr
  refine PySem.W.ksp_inv hF I.ok.mod.kin J M.at_ M.fn ?_
  have r2 : Vals [V.ref a] [Value.ref a] := .cons rfl .nil
  exact run_fn (dvs := []) (ds := []) (E := E0) F hr hb .nil pass0 I r2 q
/-- a comparison that the class has itself: a truth -/
theorem op_own_le (M : Meth X.K C "__le__" f) (F : FnOk X.prog X.w X.K X.mg X.base CX0 k f fd ps sp) (hr : Room k X.A) (hb : Binds X.K fd ps []) :
    OpR X (compareOp .LtE) (fun x y H Q => ∃ a b dx dy fs gs, x = .ref a ∧ y = .ref b ∧ H a = some (.ins C dx fs) ∧ H b = some (.ins C dy gs) ∧ sp [.ref a, .ref b] H (fun v H' => ∃ t, v = .bl t ∧ Q v H') E0) := by
  intro pins s σ H x y v u Q I rx ry h
  obtain ⟨a, b, dx, dy, fs, gs, rfl, rfl, ha, hb', q⟩ := h
  cases rx
  cases ry
  obtain ⟨mA, J, _⟩ := ins_get I.hok ha
  obtain ⟨mB, J', _⟩ := ins_get I.hok hb'
  obtain ⟨od, J, _⟩ := J.look
  obtain ⟨od', J', _⟩ := J'.look
  obtain ⟨m, hF⟩ := I.fr
  show wpAny (model X.prog X.w) X.A (richCompare .LtE (.ref a) (.ref b)) (EP X pins σ Q) X.xe s
  refine PySem.W.cmp_K (op := .LtE) (tb := .ref C) hr.units0 hF I.ok.mod.kin J J'.type (by simp [PySem.W.notFirst]) M.at_ M.fn ?_
  have r2 : Vals [V.ref a, V.ref b] [Value.ref a, Value.ref b] := .cons rfl (.cons rfl .nil)
  refine wpAny_mono (run_fn (dvs := []) (ds := []) (E := E0) F hr hb .nil pass0 I r2 q) (fun v s' hq => ?_) fun _ _ e => e
  obtain ⟨z, H', I', rz, p, rfl, q⟩ := hq
  cases rz
  exact ⟨.bl p, _, I', rfl, q⟩
end
end Nw

namespace Nw
open PySem PySem.Spec PyProof.Rows L2
open AutoSeq1 (wpAny_loadPart')
/-! ### enumerate(tuple) -/
theorem meets_enumT (l : Addr) (items : Array Value) (n : Nat) (dct : Option Addr) (sl : Array (Option Value)) :
    Meets (Builtin.«enumerate.__new__» ⟨[.type "enumerate", .ref l], []⟩) (fun _ R s => s.heap.get? l = some { cls := .type "tuple", dict := dct, data := .seq items n, slots := sl } ∧
      R (.ok (.ret (.ref (s.heap.push { cls := .type "tuple_iterator", data := .fields #[.ref l, .int 0 0] }).objs.size)))
        { s with heap := (s.heap.push { cls := .type "tuple_iterator", data := .fields #[.ref l, .int 0 0] }).push { cls := .type "enumerate", data := .fields #[.none, .bool false, .ref s.heap.objs.size, rawInt 0, .none, .none] } }) :=
  .of_wp fun prog w A R s h => by
    obtain ⟨hp, g, d, tk, os⟩ := s; obtain ⟨hl, h⟩ := h
    have hsub := sub_enumerate
    have hL : Heap.IsTuple (Shared.heap ⟨hp, g, d, tk, os⟩) l items := ⟨_, hl, rfl, n, rfl⟩
    wp_walk using wpAny_loadPart' hl
    refine wpAny_stack_any fun st => wpAny_pure ?_
    split
    · rename_i c _ _ _ _ _
      cases (c == Value.type "enumerate")
      · wp_walk using wpAny_loadPart' hl, wpAny_pyIter_tuple hL
        exact ⟨_, rfl, h⟩
      · wp_walk using wpAny_loadPart' hl, wpAny_pyIter_tuple hL
        exact ⟨_, rfl, h⟩
    · wp_walk using wpAny_loadPart' hl, wpAny_pyIter_tuple hL
      exact ⟨_, rfl, h⟩
section
variable {prog : Program} {w : World} {A : Around} {E : Value → Shared → Prop} {s : Shared}
theorem call_enumT {l : Addr} {items : Array Value} {Q : Value → Shared → Prop} (hL : s.heap.IsTuple l items)
    (h : ∀ h', IsEnum h' (s.heap.objs.size + 1) s.heap.objs.size 0 .none → h'.IsTupleIter s.heap.objs.size l 0 → h'.objs.size = s.heap.objs.size + 2 →
      (∀ b o, s.heap.get? b = some o → h'.get? b = some o) → Q (.ref (s.heap.objs.size + 1)) { s with heap := h' }) :
    wpAny (model prog w) A (call (.type "enumerate") [.ref l]) Q E s := by
  obtain ⟨⟨c, dct, dt, sl⟩, hl, hc, n, hd⟩ := hL
  replace hc : c = .type "tuple" := hc
  replace hd : dt = .seq items n := hd
  subst hc hd
  refine callType_new F.called_enumerate (by decide) (F.typeCall_enumerate_1 _) (F.newCall_enumerate_1 _) (fun obj => F.args_object_init_2 obj _) F.entry_enumerate_new
    (meets_enumT l items n dct sl) ⟨hl, ?_⟩
  have hz : (s.heap.push { cls := .type "tuple_iterator", data := .fields #[.ref l, .int 0 0] }).objs.size = s.heap.objs.size + 1 := Heap.size_push ..
  show _ ∧ _
  rw [hz]
  have he : IsEnum ((s.heap.push { cls := .type "tuple_iterator", data := .fields #[.ref l, .int 0 0] }).push
      { cls := .type "enumerate", data := .fields #[.none, .bool false, .ref s.heap.objs.size, rawInt 0, .none, .none] }) (s.heap.objs.size + 1) s.heap.objs.size 0 .none := by
    have := Heap.get?_push_size (s.heap.push { cls := .type "tuple_iterator", data := .fields #[.ref l, .int 0 0] })
      (o := { cls := .type "enumerate", data := .fields #[.none, .bool false, .ref s.heap.objs.size, rawInt 0, .none, .none] }) rfl
    rw [hz] at this; exact this
  refine ⟨⟨_, he, rfl⟩, h _ he ⟨_, Heap.get?_push_of_some _ (Heap.get?_push_size _ rfl), rfl, rfl⟩ (by rw [Heap.size_push, hz]) fun b o x => Heap.get?_push_of_some _ (Heap.get?_push_of_some _ x)⟩
theorem draws_tup (hh : A.handled = none) {it t : Addr} (hne : t ≠ it) (items : Array Value) : Draws prog w A it [it, t] items.size (fun i v => items[i]? = some v) (fun i h => h.IsTupleIter it t i ∧ h.IsTuple t items) where
  live := fun i h st => let ⟨⟨o, e, _⟩, _⟩ := st; ⟨o, e⟩
  frame := fun i h h' st k => ⟨st.1.at fun o e => k it (by simp) o e, let ⟨o, e, z⟩ := st.2; ⟨o, k t (by simp) o e, z⟩⟩
  item := fun i s Q E hi st hQ => by
    refine wpAny_nextOf_tuple_item st.1 st.2 (x := items[i]) (by simp [hi]) fun h' st' sb => ?_
    refine hQ _ h' s.toks (by simp [hi]) ⟨st', ?_⟩ sb
    obtain ⟨o, e, z⟩ := st.2
    exact ⟨o, (sb.2 t hne).trans e, z⟩
  done := fun s Q E st hE => wpAny_nextOf_tuple_end hh st.1 st.2 (by simp) hE
end
def IteT (K : PySem.W.Frag) (a : Addr) : It :=
  ⟨fun i H => ∃ (xs : List V) (x : V), SqT K H a xs ∧ xs[i]? = some x, fun i H v H' => ∃ T x, v = .ref T ∧ H T = none ∧ H' = upd H T (.tup [.int (i : Nat), x]) ∧ ∀ xs, SqT K H a xs → xs[i]? = some x, fun i H => ∃ xs : List V, SqT K H a xs ∧ xs.length ≤ i⟩
theorem turn_enumT {P : Program} {w : World} {K : PySem.W.Frag} {elts : List Expr} {kk : Nat} {tpos : Pos} (a e it : Addr) :
    Turn P w K (.Tuple elts kk tpos) (IteT K a) [e, it] e (fun i h => (∃ old, IsEnum h e it ((i : Nat) : Int) old) ∧ h.IsTupleIter it a i ∧ e ≠ it) where
  mem := by simp
  obj := fun i h st b hb => by
    obtain ⟨⟨old, he⟩, ⟨o, ho, hc, hd⟩, _⟩ := st
    have e' : b = e ∨ b = it := by simpa using hb
    rcases e' with z | z
    · rw [z]; exact ⟨_, he, fun v q => nomatch q⟩
    · rw [z]; exact ⟨o, ho, fun v q => by rw [hd] at q; cases q⟩
  keep := fun i h h' st k => let ⟨⟨old, he⟩, hi, hne⟩ := st; ⟨⟨old, k e (by simp) _ he⟩, hi.at fun o q => k it (by simp) o q, hne⟩
  item := by
    intro X hP hw hK hc i pins s σ H E I hf st hg
    subst hP hw hK
    obtain ⟨⟨old, he⟩, hit, hne⟩ := st
    obtain ⟨xs, x, hq, hx⟩ := hg
    obtain ⟨its, rv, p, hz⟩ := I.tuple hq
    have p' : s.heap.IsTuple a its.toArray := p
    obtain ⟨u, hu, ru⟩ := rv.get hx
    have hel : e < s.heap.objs.size := Heap.lt_size he
    have hil : it < s.heap.objs.size := by obtain ⟨_, q, _⟩ := hit; exact Heap.lt_size q
    have nea : a ≠ it := by
      rintro rfl
      obtain ⟨o1, e1, c1, _⟩ := hit
      obtain ⟨o2, e2, c2, _⟩ := p'
      rw [e1] at e2
      cases e2
      rw [c1] at c2
      exact absurd c2 (by decide)
    have nee : a ≠ e := by
      rintro rfl
      obtain ⟨o2, e2, c2, _⟩ := p'
      rw [he] at e2
      cases e2
      exact absurd (show Value.type "enumerate" = Value.type "tuple" from c2) (by decide)
    have hlt : i < its.toArray.size := by
      rcases Nat.lt_or_ge i its.length with z | z
      · simpa using z
      · rw [List.getElem?_eq_none z] at hu; cases hu
    refine wpAny_pyNext_enum_itemD (draws_tup (by simpa using I.ok.hd hc) nea its.toArray) he ⟨hit, p'⟩ hlt hne (by simp [hne, Ne.symm nee]) fun y h' tk hy ho hst' hT hsz hk => ?_
    obtain ⟨hit', _⟩ := hst'
    have ey : y = u := by
      have z : its[i]? = some y := by simpa using hy
      rw [hu] at z
      exact (Option.some.inj z).symm
    subst ey
    refine ⟨_, rfl, wpAny_letOwnedTupleGo_enum (s := { s with heap := h', toks := tk + 1 }) ho fun h'' he' sb => ?_⟩
    have hT2 : h''.get? s.heap.objs.size = some { cls := .type "tuple", data := .seq #[.int i tk, y] } := (sb.2 _ (Nat.ne_of_gt hel)).trans hT
    have new : ObjOk X.prog X.w (upd H s.heap.objs.size (.tup [.int (i : Nat), x])) h'' s.heap.objs.size (.tup [.int (i : Nat), x]) :=
      ⟨by show 2 ≤ sizeLine; decide, [.int i tk, y], .cons ⟨_, rfl⟩ (.cons ru .nil), ⟨_, hT2, rfl, _, rfl⟩⟩
    have I1 : Inv X pins σ (upd H s.heap.objs.size (.tup [.int (i : Nat), x])) { s with heap := h'', toks := tk + 1 } :=
      I.turnedNew (ch := [e, it]) (fun b ob hb q => (sb.2 b (fun z => hb (by simp [z]))).trans (hk b ob (fun z => hb (by simp [z])) (fun z => hb (by simp [z])) q)) hf (Nat.le_refl _) new
    refine ⟨.ref s.heap.objs.size, _, I1, rfl, ⟨_, x, rfl, I.hok.fresh (Nat.le_refl _), rfl, fun ys hy => by rw [I.tuple_inj hy hq]; exact hx⟩, ⟨⟨y, ?_⟩, hit'.at fun o q => (sb.2 it (Ne.symm hne)).trans q, hne⟩, fun b hb => ?_⟩
    · have e1 : ((i + 1 : Nat) : Int) = (i : Int) + 1 := by omega
      rw [e1]; exact he'
    · have hb' : b < s.heap.objs.size := by
        have e' : b = e ∨ b = it := by simpa using hb
        rcases e' with z | z
        · rw [z]; exact hel
        · rw [z]; exact hil
      rw [upd_ne (Nat.ne_of_lt hb')]
      exact (hf b hb).1
  done := by
    intro X hP hw hK hc i pins s σ H E I hf st hg
    subst hP hw hK
    obtain ⟨⟨old, he⟩, hit, hne⟩ := st
    obtain ⟨xs, hq, hx⟩ := hg
    obtain ⟨its, rv, p, hz⟩ := I.tuple hq
    have p' : s.heap.IsTuple a its.toArray := p
    obtain ⟨f0, f1, f2, f3, f4, f5⟩ := hf it (by simp)
    have hl := rv.length
    have hT : s.TypeIs (.ref e) "enumerate" := ⟨_, he, rfl⟩
    unfold pyNext
    refine wpAny_bind (wpAny_attempt (wpAny_callSpecial?_slot (name := Str.ofString "__next__") hT F.slot_enumerate_next
      (wpAny_call_entry F.slot_enumerate_next hT F.entry_enumerate_next ?_ (F.args_enumerate_next_1 _))))
    show wpAny _ _ (field (.ref e) 2 >>= _) _ _ _
    refine wpAny_bind (wpAny_field he rfl (x := .ref it) rfl ?_)
    refine wpAny_bind (wpAny_nextOf_tuple_end (by simpa using I.ok.hd hc) hit p' (by simp; omega) fun h' x he' hx' => ?_)
    obtain ⟨o, ho, hc'⟩ := hx'
    refine wpAny_bind (wpAny_isInstance (T := "StopIteration") (b := true) ⟨o, ho, hc'⟩ isSubtype_stop ?_)
    exact wpAny_pure ⟨rfl, I.turned (t' := s.toks) (fun b o hb q => he' b o hb q) f0 f1 f3 f4 f5⟩
  self := fun A i s Q E st h => let ⟨⟨_, he⟩, _⟩ := st; wpAny_pyIter_enum he h
def iEnumT (K : PySem.W.Frag) (ta : TA) : TI := fun σ H R => ta σ H fun vs H1 => ∃ a xs, vs = [.ref a] ∧ SqT K H1 a xs ∧ R (IteT K a) H1
theorem pi_enumT {X : Cx} {e : Expr} {ta : TA} {p pos tpos : Pos} {elts : List Expr} {kk : Nat} (hg : Gl X "enumerate") (hm : X.mg "enumerate" = none) (ha : PA X [e] ta) (hs : starEach [e] X.env = [(false, eval e X.env)] := by rfl) :
    PI X (.Tuple elts kk tpos) (.Call (.Name "enumerate" p) [e] [] pos) (iEnumT X.K ta) := by
  refine ⟨fun pins s σ H R I h => ?_⟩
  refine Call_ (ld_blt I hg hm boot_enumerate (PyProof.Rows.callWith_type1 (thn (ha.run pos pins s σ H _ I h) fun us s1 ⟨vs, H1, I1, r1, q1⟩ => ?_) hs rfl))
  obtain ⟨a, xs, ex, hq, q⟩ := q1
  subst ex
  cases r1 with
  | cons r rr =>
    cases rr
    cases r
    obtain ⟨its, rv, p', hz⟩ := I1.tuple hq
    refine call_enumT (show s1.heap.IsTuple a its.toArray from p') fun h' he hit hsz hk => wpAny_pyIter_enum he ?_
    have I2 : Inv X pins σ H1 { s1 with heap := h' } := I1.kept (t' := s1.toks) hk
    refine ⟨s1.heap.objs.size + 1, [s1.heap.objs.size + 1, s1.heap.objs.size], _, _, H1, rfl, I2, turn_enumT a (s1.heap.objs.size + 1) s1.heap.objs.size, ⟨⟨.none, he⟩, hit, Nat.succ_ne_self _⟩, fun b hb => ?_, q⟩
    have e' : b = s1.heap.objs.size + 1 ∨ b = s1.heap.objs.size := by simpa using hb
    have hle : s1.heap.objs.size ≤ b := by
      rcases e' with z | z
      · rw [z]; exact Nat.le_add_right _ _
      · rw [z]; exact Nat.le_refl _
    exact I1.fpOk hle (I1.hok.fresh hle)
theorem walk_enumT {K : PySem.W.Frag} {a : Addr} {xs : List V} : Walk (IteT K a) xs.length (fun H => SqT K H a xs) (YPair (fun i => some (.int (i : Nat))) (fun i => xs[i]?)) := by
  refine ⟨fun i _ hi q => ⟨xs, xs[i], q, by simp [hi]⟩, fun _ q => ⟨xs, q, Nat.le_refl _⟩, fun i H v H' _ q y => ?_⟩
  obtain ⟨T, x, h1, h2, h3, h4⟩ := y
  exact ⟨T, .int (i : Nat), x, h1, h2, h3, rfl, h4 xs q⟩
end Nw

namespace Nw
open PySem PySem.Spec PyProof.Rows L2
/-! ### what may be a list or a tuple: t tells which -/
def ho (t : Bool) (vs : List V) : HO := match t with
  | false => .lst vs
  | true => .tup vs
def SqB (K : PySem.W.Frag) (t : Bool) (H : Hp) (a : Addr) (xs : List V) : Prop := match t with
  | false => SqL K H a xs
  | true => SqT K H a xs
theorem SqB.of {K : PySem.W.Frag} {t : Bool} {H : Hp} {a : Addr} {xs : List V} (h : H a = some (ho t xs)) : SqB K t H a xs := by
  cases t
  · exact SqL.of h
  · exact SqT.of h
def isS {α : Type} [Rep α] (t : Bool) (I : Hp) (v : V) (xs : List α) : Prop := ∃ a vs, v = .ref a ∧ I a = some (ho t vs) ∧ Paired (Rep.is I) vs xs
theorem isL.s {α : Type} [Rep α] {I : Hp} {v : V} {xs : List α} (h : isL I v xs) : isS false I v xs := h
theorem isU.s {α : Type} [Rep α] {I : Hp} {v : V} {xs : List α} (h : isU I v xs) : isS true I v xs := h
theorem isS.up {α : Type} [Rep α] {t : Bool} {I I' : Hp} {v : V} {xs : List α} (h : isS t I v xs) (e : Same I I') : isS t I' v xs :=
  let ⟨a, vs, h1, h2, h3⟩ := h
  ⟨a, vs, h1, e _ _ h2, Paired.mono' (fun _ _ z => Rep.mono e z) h3⟩
def Itq (K : PySem.W.Frag) (t : Bool) (a : Addr) : It := match t with
  | false => Itl K a
  | true => Itt K a
def iSeq (K : PySem.W.Frag) (tl : TE) : TI := fun σ H R => tl σ H fun x H1 => ∃ a t, x = .ref a ∧ (∃ xs, SqB K t H1 a xs) ∧ R (Itq K t a) H1
theorem pi_seq {X : Cx} {tg l : Expr} {tl : TE} (hl : PE X l tl) : PI X tg l (iSeq X.K tl) := by
  refine ⟨fun pins s σ H R I h => ?_⟩
  refine thn (hl.run pins s σ H _ I h) fun v s1 ⟨x, H1, I1, r1, q1⟩ => ?_
  obtain ⟨a, t, e, ⟨xs, hq⟩, q⟩ := q1
  subst e
  cases r1
  cases t
  · obtain ⟨its, rv, p, hz⟩ := I1.list hq
    refine wpAny_pyIter_list p.isList ?_
    refine ⟨s1.heap.objs.size, [s1.heap.objs.size], _, _, H1, rfl, I1.kept (t' := s1.toks) fun b o e => Heap.get?_push_of_some _ e, turn_list a _, ⟨_, Heap.get?_push_size _ rfl, rfl, rfl⟩, fun b hb => ?_, q⟩
    have e : b = s1.heap.objs.size := by simpa using hb
    subst e
    exact I1.fpOk (Nat.le_refl _) (I1.hok.fresh (Nat.le_refl _))
  · obtain ⟨its, rv, p, hz⟩ := I1.tuple hq
    refine wpAny_pyIter_tuple (show s1.heap.IsTuple a its.toArray from p) ?_
    refine ⟨s1.heap.objs.size, [s1.heap.objs.size], _, _, H1, rfl, I1.kept (t' := s1.toks) fun b o e => Heap.get?_push_of_some _ e, turn_tuple a _, ⟨_, Heap.get?_push_size _ rfl, rfl, rfl⟩, fun b hb => ?_, q⟩
    have e : b = s1.heap.objs.size := by simpa using hb
    subst e
    exact I1.fpOk (Nat.le_refl _) (I1.hok.fresh (Nat.le_refl _))
theorem walk_seq {K : PySem.W.Frag} {t : Bool} {a : Addr} {xs : List V} : Walk (Itq K t a) xs.length (fun H => SqB K t H a xs) (YAt xs) := by
  cases t
  · exact walk_list
  · exact walk_tup
def IteB (K : PySem.W.Frag) (t : Bool) (a : Addr) : It := match t with
  | false => Ite K a
  | true => IteT K a
def iEnumS (K : PySem.W.Frag) (ta : TA) : TI := fun σ H R => ta σ H fun vs H1 => ∃ a t xs, vs = [.ref a] ∧ SqB K t H1 a xs ∧ R (IteB K t a) H1
theorem pi_enumS {X : Cx} {e : Expr} {ta : TA} {p pos tpos : Pos} {elts : List Expr} {kk : Nat} (hg : Gl X "enumerate") (hm : X.mg "enumerate" = none) (ha : PA X [e] ta) (hs : starEach [e] X.env = [(false, eval e X.env)] := by rfl) :
    PI X (.Tuple elts kk tpos) (.Call (.Name "enumerate" p) [e] [] pos) (iEnumS X.K ta) := by
  refine ⟨fun pins s σ H R I h => ?_⟩
  refine Call_ (ld_blt I hg hm boot_enumerate (PyProof.Rows.callWith_type1 (thn (ha.run pos pins s σ H _ I h) fun us s1 ⟨vs, H1, I1, r1, q1⟩ => ?_) hs rfl))
  obtain ⟨a, t, xs, ex, hq, q⟩ := q1
  subst ex
  cases r1 with
  | cons r rr =>
    cases rr
    cases r
    have fin : ∀ b : Addr, b ∈ [s1.heap.objs.size + 1, s1.heap.objs.size] → s1.heap.objs.size ≤ b := fun b hb => by
      have e' : b = s1.heap.objs.size + 1 ∨ b = s1.heap.objs.size := by simpa using hb
      rcases e' with z | z
      · rw [z]; exact Nat.le_add_right _ _
      · rw [z]; exact Nat.le_refl _
    cases t
    · obtain ⟨its, rv, p', hz⟩ := I1.list hq
      refine call_enumerate_list p'.isList fun h' he hit hsz hk => wpAny_pyIter_enum he ?_
      have I2 : Inv X pins σ H1 { s1 with heap := h' } := I1.kept (t' := s1.toks) hk
      exact ⟨s1.heap.objs.size + 1, [s1.heap.objs.size + 1, s1.heap.objs.size], _, _, H1, rfl, I2, turn_enum a (s1.heap.objs.size + 1) s1.heap.objs.size, ⟨⟨.none, he⟩, hit, Nat.succ_ne_self _⟩, fun b hb => I1.fpOk (fin b hb) (I1.hok.fresh (fin b hb)), q⟩
    · obtain ⟨its, rv, p', hz⟩ := I1.tuple hq
      refine call_enumT (show s1.heap.IsTuple a its.toArray from p') fun h' he hit hsz hk => wpAny_pyIter_enum he ?_
      have I2 : Inv X pins σ H1 { s1 with heap := h' } := I1.kept (t' := s1.toks) hk
      exact ⟨s1.heap.objs.size + 1, [s1.heap.objs.size + 1, s1.heap.objs.size], _, _, H1, rfl, I2, turn_enumT a (s1.heap.objs.size + 1) s1.heap.objs.size, ⟨⟨.none, he⟩, hit, Nat.succ_ne_self _⟩, fun b hb => I1.fpOk (fin b hb) (I1.hok.fresh (fin b hb)), q⟩
theorem walk_enumS {K : PySem.W.Frag} {t : Bool} {a : Addr} {xs : List V} : Walk (IteB K t a) xs.length (fun H => SqB K t H a xs) (YPair (fun i => some (.int (i : Nat))) (fun i => xs[i]?)) := by
  cases t
  · exact walk_enum
  · exact walk_enumT
/-- its type, and what isinstance of (list, tuple) tells -/
theorem ty_seq {K : PySem.W.Frag} {t : Bool} {H : Hp} {a : Addr} {vs : List V} (h : H a = some (ho t vs)) : ∃ n, TyX K H (.ref a) (.type n) ∧ PySem.W.kitAny K (.type n) [.type "list", .type "tuple"] = some true := by
  cases t
  · exact ⟨_, .base (.lst h), kit_any_hd⟩
  · exact ⟨_, .base (.tup h), kitAny_cons (b := false) (kit_ty (by decide +kernel)) (fun _ => kit_any_hd) (fun z => nomatch z)⟩
end Nw

namespace Nw
open PySem PySem.Spec PyProof.Rows L2
section
variable {X : Cx} {k : Nat} {f C : Addr} {fd : FuncData} {ps : List Str} {sp : Sp}
def rOwnB (C : Addr) (sp : Sp) (g : Bool → Bool) : R2 := fun x y H Q => ∃ a b dx dy fs gs, x = .ref a ∧ y = .ref b ∧ H a = some (.ins C dx fs) ∧ H b = some (.ins C dy gs) ∧ sp [.ref a, .ref b] H (fun v H' => ∃ t, v = .bl t ∧ Q (.bl (g t)) H') E0
/-- == that the class has itself -/
theorem op_own_eq (M : Meth X.K C "__eq__" f) (F : FnOk X.prog X.w X.K X.mg X.base CX0 k f fd ps sp) (hr : Room k X.A) (hb : Binds X.K fd ps []) : OpR X (compareOp .Eq) (rOwnB C sp id) := by
  intro pins s σ H x y v u Q I rx ry h
  obtain ⟨a, b, dx, dy, fs, gs, rfl, rfl, ha, hb', q⟩ := h
  cases rx
  cases ry
  obtain ⟨mA, J, _⟩ := ins_get I.hok ha
  obtain ⟨mB, J', _⟩ := ins_get I.hok hb'
  obtain ⟨od, J, _⟩ := J.look
  obtain ⟨od', J', _⟩ := J'.look
  obtain ⟨m, hF⟩ := I.fr
  show wpAny (model X.prog X.w) X.A (richCompare .Eq (.ref a) (.ref b)) (EP X pins σ Q) X.xe s
  refine PySem.W.cmp_K (op := .Eq) (tb := .ref C) hr.units0 hF I.ok.mod.kin J J'.type (by simp [PySem.W.notFirst]) M.at_ M.fn ?_
  have r2 : Vals [V.ref a, V.ref b] [Value.ref a, Value.ref b] := .cons rfl (.cons rfl .nil)
  refine wpAny_mono (run_fn (dvs := []) (ds := []) (E := E0) F hr hb .nil pass0 I r2 q) (fun v s' hq => ?_) fun _ _ e => e
  obtain ⟨z, H', I', rz, p, rfl, q⟩ := hq
  cases rz
  exact ⟨.bl p, _, I', rfl, q⟩
theorem slot_ne : Slot "object" "__ne__" "object.__ne__" := F.cmp_object.ne
/-- a builtin's slot of an instance, found by the class's part -/
theorem ifBoundB_K {M : Model} {A : Around} {E : Value → Shared → Prop} {s : Shared} {K : PySem.W.Frag} {x C : Addr} {ox : Obj} {od : Option Obj} {name : Str} {T id : String} {args : List Value} {Q : Option Value → Shared → Prop} (Xk : K.In s.heap) (I : PySem.W.InstAt s.heap x ox C od)
    (hs : PySem.W.findIn K (.ref C) name = some (some (.builtin id))) (S : Slot T name id)
    (h : wpAny M A (call (.builtin id) (.ref x :: args)) (fun v => Q (some v)) E s) : wpAny M A (callSpecialIfBound? (.ref x) name args) Q E s := by
  simp only [callSpecialIfBound?, bindSpecialIfBound?]
  refine wpAny_holding (wpAny_bind (wpAny_bind (wpAny_bind (I.type.here ((PySem.W.looks_findIn Xk hs).here ?_)))))
  simp only [S.bind]
  refine wpAny_bind (wpAny_askSetting (wpAny_ite ?_))
  have fin : wpAny M A (call (.builtin id) ([.ref x] ++ args) >>= fun v => pure (some v)) Q E s := wpAny_bind (wpAny_mono h (fun v s' h' => wpAny_pure h') fun _ _ h' => h')
  split
  · exact wpAny_bind (wpAny_pure (wpAny_pure fin))
  · exact wpAny_tryCatch (wpAny_bind (wpAny_pure (wpAny_pure fin)))
theorem check_slotK {M : Model} {A : Around} {E : Value → Shared → Prop} {s : Shared} {K : PySem.W.Frag} {x C : Addr} {ox : Obj} {od : Option Obj} {id owner n : String} {rest : List Value} {Q : Unit → Shared → Prop} (Xk : K.In s.heap) (I : PySem.W.InstAt s.heap x ox C od) (hk : builtinKind id = some .slot) (hs : splitId id = some (owner, n))
    (ha : argsOk id ⟨.ref x :: rest, []⟩) (hsub : PySem.W.subIn K (.ref C) (.type owner) = some true) (hq : Q () s) : wpAny M A (checkBuiltinCall id ⟨.ref x :: rest, []⟩) Q E s := by
  simp only [checkBuiltinCall, hk, hs]
  refine wpAny_bind ?_
  unfold isInstance
  refine wpAny_bind (I.type.here ?_)
  refine (PySem.W.looks_subIn Xk hsub).here ?_
  cases hsig : Manifest.signature? id with
  | none => exact wpAny_pure hq
  | some sig =>
    simp only [argsOk, hsig] at ha
    have h2 : Bind.checkArgs id sig ⟨.ref x :: rest, []⟩ = pure () := ha
    show wpAny M A (Bind.checkArgs id sig ⟨.ref x :: rest, []⟩) Q E _
    rw [h2]; exact wpAny_pure hq
/-- != of a class with its own ==, that leaves __ne__ to object -/
theorem op_own_ne (M : Meth X.K C "__eq__" f) (hne : PySem.W.findIn X.K (.ref C) "__ne__" = some (some (.builtin "object.__ne__"))) (hob : PySem.W.subIn X.K (.ref C) (.type "object") = some true)
    (F : FnOk X.prog X.w X.K X.mg X.base CX0 k f fd ps sp) (hr : Room (k + 1) X.A) (hb : Binds X.K fd ps []) : OpR X (compareOp .NotEq) (rOwnB C sp not) := by
  intro pins s σ H x y v u Q I rx ry h
  obtain ⟨a, b, dx, dy, fs, gs, rfl, rfl, ha, hb', q⟩ := h
  cases rx
  cases ry
  obtain ⟨mA, J, _⟩ := ins_get I.hok ha
  obtain ⟨mB, J', _⟩ := ins_get I.hok hb'
  obtain ⟨od, J, _⟩ := J.look
  obtain ⟨od', J', _⟩ := J'.look
  obtain ⟨m, hF⟩ := I.fr
  have Xk := I.kIn
  show wpAny (model X.prog X.w) X.A (richCompare .NotEq (.ref a) (.ref b)) (EP X pins σ Q) X.xe s
  have r2 : Vals [V.ref a, V.ref b] [Value.ref a, Value.ref b] := .cons rfl (.cons rfl .nil)
  have e0 : Env0 X.prog X.w X.K X.mg X.base X.A.in1 X.stack s H := I.env0.in1
  have hl : (([.ref a, .ref b] : List Value) ++ []).length = ps.length := by
    have := F.len _ _ _ _ q
    simpa using this
  -- the own ==, one deeper
  have own : wpAny (model X.prog X.w) X.A.in1 (call (.ref f) [.ref a, .ref b]) (EP X pins σ (fun v H' => ∃ t, v = .bl t ∧ Q (.bl (!t)) H')) X.xe s := by
    refine wpAny_call (codeAny_mono (F.run X.A.in1 X.stack s H ⟨[.ref a, .ref b], []⟩ [.ref a, .ref b] [.ref a, .ref b] _ E0 hr.in1 e0 (by
      have := hb s [.ref a, .ref b] I.kIn hl
      simpa using this) r2 q) fun r s' hq => ?_)
    cases r with
    | error e => exact pass0 pins σ H s e s' I hq
    | ok fl =>
      cases fl with
      | ret w => exact I.after hq
      | next => exact False.elim hq
      | brk => exact False.elim hq
      | cont => exact False.elim hq
  have neq : wpAny (model X.prog X.w) X.A.in1 (Builtin.«object.__ne__» ⟨[.ref a, .ref b], []⟩) (fun fin s' => ∃ t, fin = .done (.ret (.bool t)) ∧ EP X pins σ Q (.bool t) s') X.xe s := by
    unfold Builtin.«object.__ne__»
    refine wpAny_bind (m := slotArgs "__ne__" 1 ⟨[.ref a, .ref b], []⟩) ?_
    refine (show wpAny _ _ (pure (Value.ref a, [Value.ref b])) _ _ _ from wpAny_pure ?_)
    refine wpAny_bind (wpAny_cRoomFor hr.in1.units0 ?_)
    refine wpAny_bind (PySem.W.ifBound_K Xk J M.at_ M.fn (wpAny_mono own (fun v s' hv => ?_) fun _ _ e => e))
    obtain ⟨z, H', I', rz, t, rfl, q'⟩ := hv
    cases rz
    refine wpAny_bind (wpAny_truthy_bool ?_)
    exact wpAny_pure ⟨!t, rfl, .bl (!t), H', I', rfl, q'⟩
  have one : wpAny (model X.prog X.w) X.A (tryCompare (.ref a) "__ne__" (.ref b)) (fun r s' => ∃ v, r = some v ∧ EP X pins σ Q v s') X.xe s := by
    unfold tryCompare
    refine wpAny_bind (ifBoundB_K Xk J hne slot_ne (wpAny_call (codeAny_call_builtin slot_ne.plain PySem.F.cmpEntry_ne (check_slotK Xk J PySem.F.cmpKind_ne PySem.F.cmpSplit_ne (PySem.F.cmpArgs_ne _ _) hob ?_))))
    refine wpAny_mono neq (fun fin s' hv => ?_) fun e s' z => z
    obtain ⟨t, rfl, q'⟩ := hv
    exact wpAny_pure ⟨_, rfl, q'⟩
  unfold richCompare
  simp only [oneThing_ref]
  refine wpAny_holding (wpAny_bind (wpAny_cRoomFor hr.units0 ?_))
  refine wpAny_bind (J.type.here (wpAny_bind (J'.type.here ?_)))
  simp only [bne_self_eq_false, Bool.false_eq_true, if_false]
  refine wpAny_bind (wpAny_pure ?_)
  simp only [Bool.false_eq_true, if_false]
  refine wpAny_bind (wpAny_mono one (fun r s' z => ?_) fun _ _ e => e)
  obtain ⟨v, rfl, hq⟩ := z
  exact wpAny_pure hq
end
end Nw

namespace Nw
open PySem PySem.Spec PyProof.Rows L2
/-! ### an exception that was caught and is held as a value -/
def ExV (cls : Value) (d : Option Addr) (a : Addr) : HO := .ext fun h => ∃ (oe : Obj) (vs : Array Value), h.get? a = some oe ∧ Zc cls d oe ∧ oe.data = .fields vs
theorem exv_at {P : Program} {w : World} {H : Hp} {h : Heap} {cls : Value} {d : Option Addr} {a : Addr} (hok : HOk P w H h) (e : H a = some (ExV cls d a)) : ∃ (oe : Obj) (vs : Array Value), h.get? a = some oe ∧ Zc cls d oe ∧ oe.data = .fields vs := by
  have z : ObjOk P w H h a (ExV cls d a) := hok a _ e
  exact z.1
section
variable {X : Cx} {pins : List (Addr × Obj)} {σ : L2.St} {H : Hp} {s : Shared}
theorem inv_held {a : Addr} {oe : Obj} {vs : Array Value} {cls : Value} {d : Option Addr} (I : Inv X pins σ H s) (at_ : s.heap.get? a = some oe) (z : Zc cls d oe) (fl : oe.data = .fields vs) (fr : H a = none) (young : X.s_0.heap.get? a = none)
    (nl : a ≠ X.env.locals) (np : ∀ p ∈ X.pn ++ pins, p.1 ≠ a) : Inv X pins σ (upd H a (ExV cls d a)) s := by
  have nc : ∀ x c, X.env.cells.lookup x = some c → c ≠ a := fun x c e q => by
    obtain ⟨v, o, ho, hd⟩ := I.cell x c e
    rw [q, at_] at ho
    cases ho
    rw [fl] at hd
    cases hd
  refine ⟨I.ok, I.os, I.bare, { I.base with free := fun b o e n hx => ?_, tups := fun b xs e => ?_, frzs := fun b o u e => ?_, tbls := fun b ps e => ?_ }, I.loc, I.cell, ?_, fun x c e => ?_, fun p hp => ?_, ?_, I.len⟩
  · rw [upd_ne fun q => by rw [q, young] at e; cases e]
    exact I.base.free b o e n hx
  · have q := I.base.tups b xs e
    rw [upd_ne (ne_of_none q fr)]
    exact q
  · have q := I.base.frzs b o u e
    rw [upd_ne (ne_of_none q fr)]
    exact q
  · obtain ⟨more, q⟩ := I.base.tbls b ps e
    exact ⟨more, by rw [upd_ne (ne_of_none q fr)]; exact q⟩
  · rw [upd_ne nl.symm]
    exact I.free
  · rw [upd_ne (nc x c e)]
    exact I.freeC x c e
  · obtain ⟨p1, p2, p3⟩ := I.pin p hp
    exact ⟨p1, by rw [upd_ne (np p hp)]; exact p2, p3⟩
  · exact I.hok.laidN (fun _ _ q => q) fr ⟨⟨oe, vs, at_, z, fl⟩, ⟨oe, at_⟩, fun _ _ ⟨o, v, q, r⟩ k => ⟨o, v, k o q, r⟩⟩
end
/-- behind the suite the caught one stands as a value -/
def keepD (i : Nat) (a : Addr) (cls : Value) (d : Option Addr) (D : Ends) : Ends where
  nx := fun σ H => D.nx (σ.set i none) (upd H a (ExV cls d a))
  rt := fun v H => D.rt v (upd H a (ExV cls d a))
  bk := fun σ H => D.bk (σ.set i none) (upd H a (ExV cls d a))
  ct := fun σ H => D.ct (σ.set i none) (upd H a (ExV cls d a))
/-- what 'except c as n: suite' wishes, the exception being kept; one of another class isn't raised there -/
def wKeep (K : PySem.W.Frag) (c : Value) (i : Nat) (ts : Addr → Value → Option Addr → TS) (D : Ends) : WX := fun cls d σ H =>
  PySem.W.exmOne K cls c = some true ∧ ∀ a, H a = none → ts a cls d (keepD i a cls d D) (σ.set i (some (.ref a))) H
section
variable {X : Cx} {x n : Str} {c : Value} {i : Nat} {body suite : List Stmt} {b₀ : Stmt} {np pos pos' : Pos} {tb : WX → TS} {ts : Addr → Value → Option Addr → TS}
/-- an object in the air is none that stood at the call, no frame, no pinned one -/
structure Apart (X : Cx) (pins : List (Addr × Obj)) (a : Addr) : Prop where
  young : X.s_0.heap.get? a = none
  nl : a ≠ X.env.locals
  nf : a ∉ X.fs
  np : ∀ p ∈ X.pn ++ pins, p.1 ≠ a
theorem apart_of {pins : List (Addr × Obj)} {σ : L2.St} {H : Hp} {sI : Shared} {B h : Heap} {a : Addr} {Z : Obj → Prop} (hst : X.stack = X.env :: X.outer) (hfm : X.env.frame = some X.env.locals) (hex : X.ex = []) (I : Inv X pins σ H sI)
    (nb : ∀ b o, sI.heap.get? b = some o → b ∉ frs X.stack → B.get? b = some o) (fl : HandSPX.FlyingZ B (X.env :: X.outer) a Z h) : Apart X pins a := by
  obtain ⟨oe, vs, e1, e2, e3⟩ := fl.there
  have nB : B.get? a = none := fl.2.1
  have off : a ∉ frs (X.env :: X.outer) := fun hm => by
    obtain ⟨_, o', e', nofld⟩ := fl.2.2.1.mem hm
    rw [e1] at e'
    cases e'
    exact nofld _ e3
  have gone : ∀ o, sI.heap.get? a ≠ some o := fun o e => by
    have z := nb a o e (by rw [hst]; exact off)
    rw [nB] at z
    cases z
  refine ⟨?_, fun q => off (List.mem_filterMap.mpr ⟨X.env, List.mem_cons_self, by rw [hfm, q]⟩), fun hm => ?_, fun p hp q => ?_⟩
  · cases e : X.s_0.heap.get? a with
    | none => rfl
    | some o =>
      obtain ⟨o', z⟩ := I.base.there a o e (by rw [hex]; exact fun q => nomatch q)
      exact absurd z (gone o')
  · obtain ⟨ev, he, q⟩ := List.mem_filterMap.mp hm
    exact off (List.mem_filterMap.mpr ⟨ev, List.mem_cons_of_mem _ he, q⟩)
  · have z := (I.pin p hp).1
    rw [q] at z
    exact gone _ z
/-- try: body / except x as n: suite; the exception is kept behind it -/
theorem ps_try_keep (hst : X.stack = X.env :: X.outer) (hfm : X.env.frame = some X.env.locals) (hex : X.ex = []) (hN : X.N.Nodup) (hi : X.N[i]? = some n) (hln : X.env.kindOf n = some .local) (hc : Names X x c)
    (hb : ∀ (W : WX) (pn : List (Addr × Obj)) (xe : Value → Shared → Prop), Takes (X.tr pn xe) W → PSs (X.tr pn xe) body (tb W))
    (hsu : ∀ (a : Addr) (oe : Obj) (cls : Value) (d : Option Addr) (pn : List (Addr × Obj)), Zc cls d oe → (∃ vs, oe.data = .fields vs) → PSs (X.suite a ((a, oe) :: pn)) (b₀ :: suite) (ts a cls d)) :
    PS X (.Try body [.ExceptHandler (some (.Name x np)) (some n) (b₀ :: suite) pos'] [] [] pos) (fun D σ H => tb (wKeep X.K c i ts D) D σ H) := by
  refine ⟨fun pins s σ H D I wish => ?_⟩
  have hA : X.A.frames = some (X.env :: X.outer) := by rw [I.ok.frames, hst]
  -- what is raised in the body comes here
  have land : Takes (X.tr (X.pn ++ pins) fun e s1 => wpAny (model X.prog X.w) X.A (noteFrame e X.env) (fun _ s2 => wpAny (model X.prog X.w) X.A (setFlight e none) (fun _ s3 =>
      wpAny (model X.prog X.w) X.A (handleBy e X.env [.ExceptHandler (some (.Name x np)) (some n) (b₀ :: suite) pos']) (SP X pins D) X.xe s3) X.xe s2) X.xe s1) (wKeep X.K c i ts D) := by
    rintro u sx ⟨a, B, sI, pins', σx, Hx, cls, d, rfl, Ix, nb, up, sky, na, os, ag, hm, hyes⟩
    have J : Inv X pins σx Hx sI := Ix.ofTry I.ok
    show wpAny (model X.prog X.w) X.A (noteFrame (.ref a) X.env) _ _ _
    have sky2 : Sky B (X.env :: X.outer) a (Zc cls d) X.env.locals sx.heap := hst ▸ sky
    refine Sky.land Zc.steady hA hfm sky2 fun hA1 fl1 up1 => ?_
    have ap := apart_of hst hfm hex J nb fl1
    have J1 : Inv X pins σx Hx { sx with heap := hA1 } := J.landed nb fl1.1 (up.trans up1) os ag
    obtain ⟨o1, f1, g1, z1, d1⟩ := fl1.there
    have S1 := J1.suite g1 d1 na ap.nl ap.nf
    refine wpAny_handleBy_cons (codeAny_handlers_test ?_) (fun q => nomatch q)
    have LC : PySem.W.Looks (model X.prog X.w) hA1 (typeOf (.ref a)) cls := fun A1 Q1 E1 sh kk q => wpAny_typeOf_ref (kk _ _ g1) (by rw [z1.1]; exact q)
    have LM := PySem.W.exm_one (M := model X.prog X.w) (J1.kIn) LC hm
    have clause : ∀ {Q1 : Value → Shared → Prop} {E1 : Value → Shared → Prop}, Q1 c { sx with heap := hA1 } → wpAny (model X.prog X.w) (X.A.mark (some (.ref a))) (eval (.Name x np) X.env) Q1 E1 { sx with heap := hA1 } := fun {Q1 E1} q => by
      obtain ⟨hg, hdb, hm | ⟨hm, hv, hnn⟩⟩ := hc
      · exact ld_glob (X := X.suite a ((a, o1) :: (X.pn ++ pins))) S1 hg hm q hdb
      · exact ld_blt (X := X.suite a ((a, o1) :: (X.pn ++ pins))) S1 hg hm hv q hnn hdb
    refine clause (LM.here (codeAny_handlers_suite_as (HandSPX.lands_againZ fl1 fun hA2 fl2 up2 => ?_)))
    have J2 : Inv X pins σx Hx { sx with heap := hA2 } := J.landed nb fl2.1 ((up.trans up1).trans up2) os ag
    obtain ⟨o2, f2, g2, z2, d2⟩ := fl2.there
    refine store_ok (X := X.suite a ((a, o2) :: (X.pn ++ pins))) (v := .ref a) (J2.suite g2 d2 na ap.nl ap.nf) hN hi (.inl hln) rfl (fun s5 S5 => ?_) (.inr hln)
    refine wpAny_mono ((hsu a o2 cls d (X.pn ++ pins) z2 ⟨_, d2⟩).run [] s5 _ Hx _ S5 (hyes a na)) (fun f s6 hsp => ?_) (fun _ _ z => False.elim z)
    have out : ∀ {σ6 : L2.St} {H6 : Hp} {Q1 : Shared → Prop}, Inv (X.suite a ((a, o2) :: (X.pn ++ pins))) [] σ6 H6 s6 → (∀ s7, Inv X pins (σ6.set i none) (upd H6 a (ExV cls d a)) s7 → Q1 s7) →
        wpAny (model X.prog X.w) X.A (do bindName X.env n .none; unbindBehindTheSuite X.env n pos') (fun _ s7 => Q1 s7) X.xe s6 := fun {σ6 H6 Q1} S6 hq => by
      obtain ⟨p1, p2, _⟩ := S6.pin (a, o2) (List.mem_append_left _ List.mem_cons_self)
      exact gone_ok (inv_held (S6.unsuite I.ok) p1 z2 d2 p2 ap.young ap.nl ap.np) hN hi hln hq
    cases f with
    | next => exact let ⟨_, _, S6, q6⟩ := hsp; out S6 fun s7 J7 => ⟨_, _, J7, q6⟩
    | brk => exact let ⟨_, _, S6, q6⟩ := hsp; out S6 fun s7 J7 => ⟨_, _, J7, q6⟩
    | cont => exact let ⟨_, _, S6, q6⟩ := hsp; out S6 fun s7 J7 => ⟨_, _, J7, q6⟩
    | ret u => exact let ⟨_, _, _, S6, r6, q6⟩ := hsp; out S6 fun s7 J7 => ⟨_, _, _, J7, r6, q6⟩
  refine wpAny_Try_except (wpAny_mono ((hb (wKeep X.K c i ts D) _ _ land).run [] s σ H D (I.toTry _) wish) (fun f s1 hsp => ?_) (fun e s1 he => he))
  cases f with
  | next => exact let ⟨σ1, H1, J1, q⟩ := hsp; wpAny_execs_nil ⟨σ1, H1, J1.ofTry I.ok, q⟩
  | brk => exact let ⟨σ1, H1, J1, q⟩ := hsp; ⟨σ1, H1, J1.ofTry I.ok, q⟩
  | cont => exact let ⟨σ1, H1, J1, q⟩ := hsp; ⟨σ1, H1, J1.ofTry I.ok, q⟩
  | ret u => exact let ⟨v, σ1, H1, J1, r, q⟩ := hsp; ⟨v, σ1, H1, J1.ofTry I.ok, r, q⟩
end
/-! ### isinstance of such a value, its fields -/
/-- what isinstance and fields lean on, of an own exception class -/
structure ExF (K : PySem.W.Frag) (C : Addr) : Prop where
  ga : PySem.W.findIn K (.ref C) "__getattribute__" = some (some (.builtin "BaseException.__getattribute__"))
  gt : PySem.W.findIn K (.ref C) "__getattr__" = some none
  sb : PySem.W.subIn K (.ref C) (.type "BaseException") = some true
  hd : PySem.W.hasDictIn K C = true
  cl : PySem.W.findIn K (.ref C) "__class__" = some (some (.builtin "object.__class__"))
  sp : PySem.W.specialIn K (.builtin "object.__class__") "__get__" = some (some (.builtin "getset_descriptor.__get__"))
  tk : PySem.W.takesIn K (.builtin "object.__class__") = some true
  mr : PySem.W.mroIn K C (.type "object") = some true
def exfB (K : PySem.W.Frag) (C : Addr) : Bool :=
  decide (PySem.W.findIn K (.ref C) "__getattribute__" = some (some (.builtin "BaseException.__getattribute__"))) && (decide (PySem.W.findIn K (.ref C) "__getattr__" = some none) && (decide (PySem.W.subIn K (.ref C) (.type "BaseException") = some true) &&
  (PySem.W.hasDictIn K C && (decide (PySem.W.findIn K (.ref C) "__class__" = some (some (.builtin "object.__class__"))) && (decide (PySem.W.specialIn K (.builtin "object.__class__") "__get__" = some (some (.builtin "getset_descriptor.__get__"))) &&
  (decide (PySem.W.takesIn K (.builtin "object.__class__") = some true) && decide (PySem.W.mroIn K C (.type "object") = some true)))))))
theorem exfB_ok {K : PySem.W.Frag} {C : Addr} (h : exfB K C = true) : ExF K C := by
  unfold exfB at h
  simp only [Bool.and_eq_true, decide_eq_true_eq] at h
  obtain ⟨a, b, c, d, e, f, g, i⟩ := h
  exact ⟨a, b, c, d, e, f, g, i⟩
theorem clsIn_of {K : PySem.W.Frag} {C : Addr} (h : PySem.W.hasDictIn K C = true) : (PySem.W.clsIn K C).isSome = true := by
  obtain ⟨cd, hc, _⟩ := PySem.W.any_some h
  rw [hc]
  rfl
/-- the object at a of the class at C, as the library tells of instances -/
theorem exv_inst {X : Cx} {pins : List (Addr × Obj)} {σ : L2.St} {H : Hp} {s : Shared} {a C : Addr} {d : Option Addr} (I : Inv X pins σ H s) (e : H a = some (ExV (.ref C) d a)) (hd : ∀ dx, d = some dx → ∃ fs, H dx = some (.xd fs)) :
    ∃ ox od, PySem.W.InstAt s.heap a ox C od ∧ (∀ dx fs, d = some dx → H dx = some (.xd fs) → ∃ o, od = some o ∧ ∀ f, ∃ u, PySem.W.lookIn f o = some u ∧ RelO (fs.lookup f) u) := by
  obtain ⟨oe, vs, g, z, fl⟩ := exv_at I.hok e
  have nc : PySem.W.notCls oe = true := by
    unfold PySem.W.notCls
    rw [fl] <;> rfl
  cases d with
  | none => exact ⟨oe, none, ⟨g, z.1, nc, by rw [z.2]; trivial⟩, fun dx fs q => nomatch q⟩
  | some dx =>
    obtain ⟨fs, hfs⟩ := hd dx rfl
    have hx : ObjOk X.prog X.w H s.heap dx (.xd fs) := I.hok dx _ hfs
    obtain ⟨mA, hns, hr⟩ := hx
    obtain ⟨o, ho, look⟩ := lookIn_ns hns
    refine ⟨oe, some o, ⟨g, z.1, nc, by rw [z.2]; exact ho⟩, fun dx' fs' q q' => ?_⟩
    cases q
    rw [hfs] at q'
    cases q'
    exact ⟨o, rfl, fun f => ⟨mA f, look f, hr f⟩⟩
def rIsV (K : PySem.W.Frag) : List V → Hp → VK → Prop := fun xs H Q => ∃ (a C : Addr) (d : Option Addr) (c : V) (u : Value) (b : Bool), xs = [.ref a, c] ∧ H a = some (ExV (.ref C) d a) ∧ (∀ dx, d = some dx → ∃ fs, H dx = some (.xd fs)) ∧ ExF K C ∧ ClsV c u ∧ PySem.W.kitOne K (.ref C) u = some b ∧ Q (.bl b) H
theorem call_isV {X : Cx} : CallR X (.builtin "isinstance") (rIsV X.K) := by
  intro pins s σ H xs us Q I r h
  obtain ⟨a, C, d, c, u, b, rfl, e, hd, F, k, kit, q⟩ := h
  obtain ⟨u1, u2, rfl, r1, r2⟩ := vals2 r
  have e2 := k.eq r2
  subst e2
  cases r1
  obtain ⟨ox, od, J, _⟩ := exv_inst I e hd
  exact PySem.W.kia_one (PySem.W.kitx_exc (clsIn_of F.hd) F.ga F.gt F.sb F.cl F.sp F.tk F.mr) I.kIn J kit (fun z => nomatch z) fun tk => ⟨.bl b, H, I.tok tk, rfl, q⟩
/-- what may be anything: a plain value or such a one -/
def rIsA (K : PySem.W.Frag) : List V → Hp → VK → Prop := fun xs H Q => rIsi K xs H Q ∨ rIsV K xs H Q
theorem call_isA {X : Cx} : CallR X (.builtin "isinstance") (rIsA X.K) := by
  intro pins s σ H xs us Q I r h
  rcases h with h | h
  · exact call_isi pins s σ H xs us Q I r h
  · exact call_isV pins s σ H xs us Q I r h
/-- e.f of such a value -/
def tExF (K : PySem.W.Frag) (f : Str) (te : TE) : TE := fun σ H Q => te σ H fun x H1 => ∃ (a C dx : Addr) (fs : List (Str × V)) (v : V), x = .ref a ∧ H1 a = some (ExV (.ref C) (some dx) a) ∧ H1 dx = some (.xd fs) ∧ ExF K C ∧ PySem.W.findIn K (.ref C) f = some none ∧ fs.lookup f = some v ∧ Q v H1
theorem pe_exf {X : Cx} {e : Expr} {te : TE} {pos : Pos} {f : Str} (he : PE X e te) (hb : attributeBase e f X.env (eval e X.env) = eval e X.env := by rfl) : PE X (.Attribute e f pos) (tExF X.K f te) := by
  refine ⟨fun pins s σ H Q I h => ?_⟩
  refine attr_of hb (thn (he.run pins s σ H _ I h) fun u s1 ⟨x, H1, I1, rx, a, C, dx, fs, v, ex, ea, ed, F, hno, l, q⟩ => ?_)
  subst ex
  cases rx
  obtain ⟨ox, od, J, hl⟩ := exv_inst I1 ea fun dx' z => by cases z; exact ⟨fs, ed⟩
  obtain ⟨o, rfl, look⟩ := hl dx fs rfl ed
  obtain ⟨m, h1, h2⟩ := look f
  rw [l] at h2
  obtain ⟨u, hu, ru⟩ := RelO.some_of (v := v) (o := m) h2
  exact HandSPX.exc_get I1.kIn J F.ga F.gt F.sb (PySem.W.findObj_own F.hd hno rfl (by rw [h1, hu])) (handed_of ru) ⟨v, H1, I1.tok _, ru, q⟩
end Nw

namespace Nw
open PySem PySem.Spec PyProof.Rows L2
/-! ### own exception classes with fields: what the head tells of them -/
def oexC (C : Addr) (mro : List Value) (sl : List (Option Value)) : Bool := match mro, sl with
  | .ref c :: bm, [_, _, _, _, some (.builtin n), _] => decide (c = C) && (decide (n = "ValueError.__new__") && PySem.HandSPX.refsVE bm)
  | _, _ => false
def oexO (K : PySem.W.Frag) (C : Addr) : Bool := match K.lookup C with
  | some ⟨.type t, _, .cls cd, sl⟩ => decide (t = "type") && (cd.hasDict && (!cd.hasDel && oexC C cd.mro sl.toList))
  | _ => false
def oexB (K : PySem.W.Frag) (C : Addr) : Bool := oexO K C && (decide (PySem.W.findIn K (.ref C) "__setattr__" = some (some (.builtin "object.__setattr__"))) &&
  (decide (PySem.W.subIn K (.ref C) (.type "BaseException") = some true) && (decide (PySem.W.typeIn K (.ref C) = some (.type "type")) && PySem.W.keepIn K (.ref C))))
theorem oexB_ok {K : PySem.W.Frag} {C : Addr} (h : oexB K C = true) : OexC K C := by
  unfold oexB at h
  simp only [Bool.and_eq_true, decide_eq_true_eq] at h
  obtain ⟨h0, h1, h2, h3, h4⟩ := h
  refine ⟨?_, h1, h2, h3, h4⟩
  unfold oexO at h0
  split at h0
  · rename_i t dd cd sl hl
    simp only [Bool.and_eq_true, decide_eq_true_eq, Bool.not_eq_true'] at h0
    obtain ⟨rfl, hd, hdel, hc⟩ := h0
    unfold oexC at hc
    split at hc
    · rename_i c bm k0 k1 k2 k3 n k5 hm hs
      simp only [Bool.and_eq_true, decide_eq_true_eq] at hc
      obtain ⟨rfl, rfl, hb⟩ := hc
      obtain ⟨nm, bs, mro, ns, qn, hdd, sn, sub, ab, col, del⟩ := cd
      dsimp only at hm hd hdel
      subst hm hd hdel
      obtain ⟨ls⟩ := sl
      dsimp only at hs
      subst hs
      exact ⟨nm, qn, ns, bs, bm, sn, sub, ab, col, dd, k0, k1, k2, k3, k5, hl, hb⟩
    · cases hc
  · cases h0
/-- the class above them: its own __init__ is ValueError's -/
structure OeI (K : PySem.W.Frag) (C : Addr) : Prop where
  sp : PySem.W.specialIn K (.ref C) "__getattribute__" = some (some (.builtin "type.__getattribute__"))
  rd : PySem.W.readsIn K C (.type "type") = true
  at_ : PySem.W.findCls K (.ref C) (.type "type") "__init__" = some (.val (.builtin "ValueError.__init__"))
def veiB : Option PySem.W.CFound → Bool
  | some (.val (.builtin n)) => decide (n = "ValueError.__init__")
  | _ => false
theorem veiB_ok {o : Option PySem.W.CFound} (h : veiB o = true) : o = some (.val (.builtin "ValueError.__init__")) := by
  unfold veiB at h
  split at h
  · rw [of_decide_eq_true h]
  · cases h
def oeiB (K : PySem.W.Frag) (C : Addr) : Bool := decide (PySem.W.specialIn K (.ref C) "__getattribute__" = some (some (.builtin "type.__getattribute__"))) && (PySem.W.readsIn K C (.type "type") &&
  veiB (PySem.W.findCls K (.ref C) (.type "type") "__init__"))
theorem oeiB_ok {K : PySem.W.Frag} {C : Addr} (h : oeiB K C = true) : OeI K C := by
  unfold oeiB at h
  simp only [Bool.and_eq_true, decide_eq_true_eq] at h
  exact ⟨h.1, h.2.1, veiB_ok h.2.2⟩
/-- C0.__init__(self, ..) -/
theorem pe_oeinit {X : Cx} {c : Str} {C0 : Addr} {e : Expr} {es : List Expr} {ta : TA} {p1 p2 pos : Pos} {pl : Sem Bool} (F : OeI X.K C0) (hm : X.mg c = some (.ref C0)) (ha : PA X (e :: es) ta) (hg : Gl X c := by rfl) (hdb : (c == ("__debug__" : Str)) = false := by decide)
    (hc : eval (.Call (.Attribute (.Name c p1) "__init__" p2) (e :: es) [] pos) X.env = (do
      let cv ← eval (.Name c p1) X.env
      standAt p2.atName
      let (g, fst) ← holding [cv] (getMethod cv "__init__" pl)
      callWith pos g fst (backTo pos (starEach (e :: es) X.env)) (backToKw pos (keywordEach [] X.env))) := by rfl)
    (hst : starEach (e :: es) X.env = (false, eval e X.env) :: starEach es X.env := by rfl) (hpl : (backTo pos (starEach es X.env)).any (·.1) = false := by rfl) :
    PE X (.Call (.Attribute (.Name c p1) "__init__" p2) (e :: es) [] pos) (tVeI X.K ta) := by
  refine ⟨fun pins s σ H Q I h => PySem.W.methodCall_KW (ld_glob I hg hm ?_ hdb) hc⟩
  refine PySem.W.method_cls I.kIn F.sp (PySem.W.cls_value I.kIn F.rd F.at_ (by first | rfl | decide +kernel) ?_)
  have I0 := I.tok (s.toks + 1)
  refine PyProof.Rows.callWith_method1 (thn (ha.run pos pins _ σ H _ I0 h) fun us s1 ⟨vs, H1, I1, rv, a, C, ws, ev, hl, T, ea, q⟩ => ?_) hst hpl
  subst ev
  cases rv with
  | @cons _ u0 _ ur ra rw' =>
    obtain rfl : u0 = Value.ref a := ra
    refine oinit_ok T I1 ea ?_ fun s' J => ⟨.non, H1, J, rfl, q⟩
    rw [← Paired.length rw', sizeLine_eq]
    omega
/-! ### an __init__ with one field, with two -/
def spX1 (K : PySem.W.Frag) (C : Addr) (f : Str) : Sp := fun vs H Q _ => ∃ (a : Addr) (v : V), vs = [.ref a, v] ∧ H a = some (exo a C none) ∧ ∀ dx, H dx = none → dx ≠ a → Q .non (upd (upd H dx (exd dx [(f, v)])) a (exo a C (some dx)))
def spX2 (K : PySem.W.Frag) (C : Addr) (f g : Str) : Sp := fun vs H Q _ => ∃ (a : Addr) (v w : V), vs = [.ref a, v, w] ∧ H a = some (exo a C none) ∧ ∀ dx, H dx = none → dx ≠ a → Q .non (upd (upd H dx (exd dx [(g, w), (f, v)])) a (exo a C (some dx)))
theorem upd_upd {H : Hp} {a : Addr} {o o' : HO} : upd (upd H a o) a o' = upd H a o' := by
  funext b
  by_cases h : b = a
  · rw [h, upd_same, upd_same]
  · rw [upd_ne h, upd_ne h, upd_ne h]
theorem upd_comm {H : Hp} {a b : Addr} {o u : HO} (h : a ≠ b) : upd (upd H a o) b u = upd (upd H b u) a o := by
  funext c
  by_cases h1 : c = a
  · rw [h1, upd_ne h, upd_same, upd_same]
  · by_cases h2 : c = b
    · rw [h2, upd_same, upd_ne h.symm, upd_same]
    · rw [upd_ne h2, upd_ne h1, upd_ne h1, upd_ne h2]
theorem made_heap {H1 : Hp} {a dx C : Addr} {fs : List (Str × V)} (na : H1 a = none) (ne : dx ≠ a) :
    upd (del (upd (upd (upd H1 a (exo a C none)) dx (exd dx fs)) a (exo a C (some dx))) a) dx (.xd fs) = upd H1 dx (.xd fs) := by
  funext b
  by_cases h : b = dx
  · rw [h, upd_same, upd_same]
  · rw [upd_ne h, upd_ne h]
    by_cases h2 : b = a
    · rw [h2, del_same, na]
    · rw [del_ne h2, upd_ne h2, upd_ne h, upd_ne h2]
/-- what X(e) asks behind its argument -/
theorem mk1 {K : PySem.W.Frag} {C : Addr} {f : Str} {v : V} {H1 : Hp} {Q : XK} (k : ∀ dx, H1 dx = none → Q (.ref C) (some dx) (upd H1 dx (.xd [(f, v)]))) :
    [v].length ≤ 1000 ∧ ∀ a, H1 a = none → spX1 K C f (.ref a :: ([v] ++ [])) (upd H1 a (exo a C none))
      (fun w H2 => w = .non ∧ ∃ (d : Addr) (fs : List (Str × V)), H2 a = some (exo a C (some d)) ∧ H2 d = some (exd d fs) ∧ H1 d = none ∧ Q (.ref C) (some d) (upd (del H2 a) d (.xd fs))) (fun _ _ _ => False) := by
  refine ⟨by simp, fun a na => ⟨a, v, rfl, upd_same, fun dx hdx ne => ⟨rfl, dx, _, upd_same, by rw [upd_ne ne]; exact upd_same, ?_, ?_⟩⟩⟩
  · rw [upd_ne ne] at hdx
    exact hdx
  · rw [made_heap na ne]
    refine k dx ?_
    rw [upd_ne ne] at hdx
    exact hdx
theorem mk2 {K : PySem.W.Frag} {C : Addr} {f g : Str} {v w : V} {H1 : Hp} {Q : XK} (k : ∀ dx, H1 dx = none → Q (.ref C) (some dx) (upd H1 dx (.xd [(g, w), (f, v)]))) :
    [v, w].length ≤ 1000 ∧ ∀ a, H1 a = none → spX2 K C f g (.ref a :: ([v, w] ++ [])) (upd H1 a (exo a C none))
      (fun w H2 => w = .non ∧ ∃ (d : Addr) (fs : List (Str × V)), H2 a = some (exo a C (some d)) ∧ H2 d = some (exd d fs) ∧ H1 d = none ∧ Q (.ref C) (some d) (upd (del H2 a) d (.xd fs))) (fun _ _ _ => False) := by
  refine ⟨by simp, fun a na => ⟨a, v, w, rfl, upd_same, fun dx hdx ne => ⟨rfl, dx, _, upd_same, by rw [upd_ne ne]; exact upd_same, ?_, ?_⟩⟩⟩
  · rw [upd_ne ne] at hdx
    exact hdx
  · rw [made_heap na ne]
    refine k dx ?_
    rw [upd_ne ne] at hdx
    exact hdx
section
variable {X : Cx} {P : Program} {w : World} {K : PySem.W.Frag} {mg : Str → Option Value} {base : Heap} {k : Nat} {f C : Addr} {ps : List Str} {sp : Sp} {E : XK} {x m : Str} {pos ppos apos : Pos} {e o : Expr} {es : List Expr} {ta : TE} {t : TA}
/-- X(e, ..), X an own class with its own __init__ -/
theorem pmk_oexC (O : OexC X.K C) (M : Meth X.K C "__init__" f) (G : Ok X.prog X.w X.K X.mg X.base CX0 k f ps sp) (hr : Room (k + 1) X.A) (hm : X.mg x = some (.ref C)) (ha : PA X (e :: es) t) (hg : Gl X x := by rfl) (hdb : (x == ("__debug__" : Str)) = false := by decide)
    (hst : starEach (e :: es) X.env = (false, eval e X.env) :: starEach es X.env := by rfl) (hpl : (backTo pos (starEach es X.env)).any (·.1) = false := by rfl) : PMk X (.Call (.Name x ppos) (e :: es) [] pos) (tMkO C sp [] t) := by
  obtain ⟨fd, F, b, kp, _⟩ := G.ok
  exact pmk_oex O M.at_ (beq_iff_eq.mp M.fn) F hr b .nil pass0 hg hm ha hdb hst hpl
/-- a def that may let exceptions out -/
theorem ok_ofX {qual : Str} {st : Stmt} {N : List Str} (F : FnAt K x qual st f) (S : FnScope N ps (defScope st))
    (hb : ∀ (kV doc pm : Value) (an : Option Addr) (cdv ct : Value) (us : List Value), us.length = ps.length → bindArgs (PySem.W.fnOf x qual (defArgs st) (defBody st) (defScope st) .none kV doc pm an cdv ct) ⟨us, []⟩ = pure (ps.zip us))
    (len : ∀ vs H Q E, sp vs H Q E → vs.length = ps.length)
    (hbody : ∀ (cdv : Value) (A : Around) (outer : List Env) (s : Shared) (H : Hp) (vs : List V) (Q : VK) (E : XK), Room k (A.deeper (envOfC qual (defScope st) s.heap.objs.size f cdv)) → sp vs H Q E →
      ∃ t, PSs (cxOf (L2.CX P w) P w K mg base N qual (defScope st) f cdv A outer s H E) (defBody st) t ∧ t { nx := fun _ H' => Q .non H', rt := Q } (start N vs) H) : Ok P w K mg base (L2.CX P w) (k + 1) f ps sp := by
  obtain ⟨fd, F⟩ := F
  exact ⟨fd, F.ok S len hbody, F.bindsN hb, F.kp, let ⟨oc, od, _, _, _, _, _, _, _, osl, _, lk, _⟩ := F.ex; ⟨oc, od, osl, lk⟩⟩
/-- where no exception is let out, though a callee may raise at other arguments -/
theorem passN : Passes (L2.CX X.prog X.w) X E0 := passL
/-- in a def's body: what a callee lets out goes out -/
theorem passE {E1 : Value → Shared → Prop} (hs : X.stack = X.env :: X.outer := by rfl) (hf : X.env.frame = some X.env.locals := by rfl) (hex : X.ex = [] := by rfl)
    (hx : X.xe = fun e s' => wpAny (model X.prog X.w) X.A (leaving X.env e) (fun _ s'' => L2.CX X.prog X.w X.outer X.H_0 X.s_0 E e s'') E1 s' := by rfl) : Passes (L2.CX X.prog X.w) X E := passes_call (takes_of hs hf hex hx) fun _ _ _ _ z => z
/-- in a try's body: the wish, for all slots of the right number -/
def EW (n : Nat) (W : WX) : XK := fun cls d H => ∀ σ : L2.St, σ.length = n → W cls d σ H
theorem Takes.len {W : WX} (t : Takes X W) : Takes X (fun cls d σ H => σ.length = X.N.length → W cls d σ H) := fun u s' ⟨a, B, sI, pins, σ, H, cls, d, e, I, nb, up, sky, na, os, ag, h⟩ =>
  t u s' ⟨a, B, sI, pins, σ, H, cls, d, e, I, nb, up, sky, na, os, ag, h I.len⟩
theorem passW {W : WX} (n : Nat) (t : Takes X W) (hn : X.N.length = n := by rfl) : Passes (L2.CX X.prog X.w) X (EW n W) := passes_call (Nw.Takes.len t) fun _ _ σ _ z hl => z σ (hl.trans hn)
theorem pe_callX (G : Ok X.prog X.w X.K X.mg X.base (L2.CX X.prog X.w) k f ps sp) (hr : Room k X.A) (hm : X.mg x = some (.ref f)) (hx : Passes (L2.CX X.prog X.w) X E) (ha : PA X (e :: es) t) (hg : Gl X x := by rfl) (hdb : (x == ("__debug__" : Str)) = false := by decide)
    (hst : starEach (e :: es) X.env = (false, eval e X.env) :: starEach es X.env := by rfl) (hpl : (backTo pos (starEach es X.env)).any (·.1) = false := by rfl) : PE X (.Call (.Name x ppos) (e :: es) [] pos) (tCall sp [] E t) := by
  obtain ⟨fd, F, b, kp, _⟩ := G.ok
  exact pe_call F hr hg hm kp b .nil hx ha hdb hst hpl
theorem pe_makeX (M : Mk X.K C f) (G : Ok X.prog X.w X.K X.mg X.base (L2.CX X.prog X.w) k f ps sp) (hr : Room (k + 1) X.A) (hm : X.mg x = some (.ref C)) (hx : Passes (L2.CX X.prog X.w) X E) (ha : PA X (e :: es) t) (hg : Gl X x := by rfl) (hdb : (x == ("__debug__" : Str)) = false := by decide)
    (hst : starEach (e :: es) X.env = (false, eval e X.env) :: starEach es X.env := by rfl) (hpl : (backTo pos (starEach es X.env)).any (·.1) = false := by rfl) : PE X (.Call (.Name x ppos) (e :: es) [] pos) (tMake C sp [] E t) := by
  obtain ⟨fd, F, b, kp, _⟩ := G.ok
  exact pe_make M F hr hg hm b .nil hx ha hdb hst hpl
/-- a op b by the class's own method, which may raise -/
def rOwnX (C : Addr) (sp : Sp) (E : XK) : R2 := fun x y H Q => ∃ a b dx dy fs gs, x = .ref a ∧ y = .ref b ∧ H a = some (.ins C dx fs) ∧ H b = some (.ins C dy gs) ∧ sp [.ref a, .ref b] H (fun v H' => ∃ p, v = .ref p ∧ Q v H') E
theorem op_ownX {op : Operator} {nm : Str} (M : Meth X.K C nm f) (he : PySem.dunder op.info.2 = nm) (hc : PySem.W.selfFirst X.K C = true) (G : Ok X.prog X.w X.K X.mg X.base (L2.CX X.prog X.w) k f ps sp) (hr : Room k X.A) (hx : Passes (L2.CX X.prog X.w) X E) : OpR X (binaryOp op) (rOwnX C sp E) := by
  intro pins s σ H x y v u Q I rx ry h
  obtain ⟨fd, F, b, kp, _⟩ := G.ok
  obtain ⟨p, q, dx, dy, fs, gs, rfl, rfl, hp, hq, h⟩ := h
  cases rx
  cases ry
  obtain ⟨_, Jp, _⟩ := ins_get I.hok hp
  obtain ⟨_, Jq, _⟩ := ins_get I.hok hq
  obtain ⟨od, Jp, _⟩ := Jp.look
  obtain ⟨od', Jq, _⟩ := Jq.look
  obtain ⟨m, fr⟩ := I.fr
  refine PySem.W.binop_K fr I.ok.mod.kin Jp Jq.type hc (by rw [he]; exact M.at_) M.fn ?_
  refine wpAny_mono (run_fn (vs := [.ref p, .ref q]) (dvs := []) (ds := []) (E := E) F hr b .nil hx I (.cons rfl (.cons rfl .nil)) h) (fun v s' ⟨z, H', I', rz, r, e, k⟩ => ?_) fun _ _ z => z
  subst e
  cases rz
  exact ⟨.ref r, _, I', rfl, k⟩
end
end Nw

namespace Nw
open PySem PySem.Spec PyProof.Rows L2
/-! ### properties: the getter found through its class -/
def propAt (K : PySem.W.Frag) (C : Addr) (m : Str) : Addr := match PySem.W.findIn K (.ref C) m with
  | some (some (.ref p)) => p
  | _ => 0
def propGet (K : PySem.W.Frag) (C : Addr) (m : Str) : Addr := match PySem.W.recIn K (propAt K C m) "property" with
  | some (.ref g :: _) => g
  | _ => 0
def recB (K : PySem.W.Frag) (p g : Addr) : Bool := match PySem.W.recIn K p "property" with
  | some (.ref h :: _) => decide (h = g)
  | _ => false
def propB (K : PySem.W.Frag) (C : Addr) (m : Str) : Bool := decide (PySem.W.findIn K (.ref C) m = some (some (.ref (propAt K C m)))) && (decide (PySem.W.specialIn K (.ref (propAt K C m)) "__get__" = some (some (.builtin "property.__get__"))) &&
  (decide (PySem.W.takesIn K (.ref (propAt K C m)) = some true) && recB K (propAt K C m) (propGet K C m)))
theorem propB_ok {K : PySem.W.Frag} {C : Addr} {m : Str} (h : propB K C m = true) : PropOf K C m (propAt K C m) (propGet K C m) := by
  unfold propB at h
  simp only [Bool.and_eq_true, decide_eq_true_eq] at h
  obtain ⟨h1, h2, h3, h4⟩ := h
  refine ⟨h1, h2, h3, ?_⟩
  unfold recB at h4
  split at h4
  · rename_i g r e
    rw [← of_decide_eq_true h4]
    exact ⟨r, e⟩
  · cases h4
/-- a function by its address -/
def fnAtA (K : PySem.W.Frag) (f : Addr) : He.FnW := match K.lookup f with
  | some ⟨_, _, .func fd, _⟩ => some (fd.name, fd.qualname, fd.params, fd.body, fd.scope, fd.globals, fd.closure, fd.builtins)
  | _ => none
def fnOkA (K : PySem.W.Frag) (f : Addr) (q : Str) : Bool := PySem.W.keepIn K (.ref f) && (match K.lookup f with
  | some ⟨_, _, .func fd, _⟩ => PySem.W.codeIn K fd.code q && (He.dflB K fd.defaults [] && He.kwdB K fd.kwdefaults [])
  | _ => false)
theorem funD_at {K : PySem.W.Frag} {f : Addr} {d : He.DefD} (e : fnAtA K f = d.val) (c : fnOkA K f d.qual = true) : ∃ fd, FunD K d.name d.qual d.params d.body d.scope [] [] f fd := by
  unfold fnOkA at c
  rw [Bool.and_eq_true] at c
  obtain ⟨kp, c⟩ := c
  unfold fnAtA at e
  split at e
  · rename_i oc od fd osl lk
    rw [lk] at c
    obtain ⟨a1, a2, a3, a4, a5, a6, a7, a8, a9, a10, a11, a12, a13, a14, a15⟩ := fd
    unfold He.DefD.val at e
    simp only [Option.some.injEq, Prod.mk.injEq] at e
    obtain ⟨e1, e2, e3, e4, e5, e6, e7, e8⟩ := e
    subst e1 e2 e3 e4 e5 e6 e7 e8
    simp only [Bool.and_eq_true] at c
    exact ⟨_, ⟨oc, od, a8, a9, a10, a11, a12, a13, a14, osl, rfl, lk, c.1, He.dflB_ok c.2.1, He.kwdB_ok c.2.2⟩, kp⟩
  · cases e
/-- the head's look, with the getters and the model's own statics -/
abbrev GetD : Type := (Str × Str) × He.DefD
def getAd (K : PySem.W.Frag) (g : GetD) : Addr := propGet K (He.ga K g.1.1) g.1.2
abbrev AlP : Type := (He.AlD × Bool) × (List He.FnW × Bool)
def frP (n : Nat) (g : Addr → Option Obj) : PySem.W.Frag := He.frT g (cStatics :: He.asD g n)
def obsK (fa : List He.Fa) (fn : List He.DefD) (tf : List He.Defn) (ex : PySem.W.Frag → Bool) (gs : List GetD) (g : Addr → Option Obj) (K : PySem.W.Frag) : AlP :=
  ((He.obsD fa fn K, ex K && He.tabsB g tf K), (gs.map fun d => fnAtA K (getAd K d), gs.all fun d => fnOkA K (getAd K d) d.2.qual))
def obsP (n : Nat) (fa : List He.Fa) (fn : List He.DefD) (tf : List He.Defn) (ex : PySem.W.Frag → Bool) (gs : List GetD) (g : Addr → Option Obj) : AlP := obsK fa fn tf ex gs g (frP n g)
def valP (fn : List He.DefD) (gs : List GetD) : AlP := ((He.valD fn, true), (gs.map fun d => d.2.val, true))
structure SaysP (fa : List He.Fa) (fn : List He.DefD) (tf : List He.Defn) (ex : PySem.W.Frag → Bool) (gs : List GetD) (h : Heap) (K : PySem.W.Frag) : Prop where
  d : He.SaysD fa fn K
  more : ex K = true
  hd : ∀ p ∈ tf, PySem.W.codeHdIn K (He.cT K p).1 (He.cT K p).2 = true
  out : ∀ p ∈ tf, K.lookup (He.cT K p).2 = none
  empty : ∀ p ∈ tf, h.get? (He.cT K p).2 = some { cls := .none, data := .fields #[] }
  fns : (gs.map fun d => fnAtA K (getAd K d)) = gs.map fun d => d.2.val
  oks : (gs.all fun d => fnOkA K (getAd K d) d.2.qual) = true
theorem tab_at {h : Heap} {tf : List He.Defn} {K : PySem.W.Frag} (e : He.tabsB h.get? tf K = true) : ∀ p ∈ tf, PySem.W.codeHdIn K (He.cT K p).1 (He.cT K p).2 = true ∧ ∃ o, h.get? (He.cT K p).2 = some o ∧ He.emptyTab o = true := fun p hp => by
  have z := List.all_eq_true.mp e p hp
  rw [Bool.and_eq_true] at z
  refine ⟨z.1, ?_⟩
  have z2 := z.2
  split at z2
  · rename_i o q
    exact ⟨o, q, z2⟩
  · cases z2
theorem saysP_of {n : Nat} {fa : List He.Fa} {fn : List He.DefD} {tf : List He.Defn} {ex : PySem.W.Frag → Bool} {gs : List GetD} {h : Heap} (e : obsP n fa fn tf ex gs h.get? = valP fn gs) : SaysP fa fn tf ex gs h (frP n h.get?) := by
  have e2 : (ex (frP n h.get?) && He.tabsB h.get? tf (frP n h.get?)) = true := congrArg (fun z : AlP => z.1.2) e
  rw [Bool.and_eq_true] at e2
  have tb := tab_at e2.2
  refine ⟨congrArg (fun z : AlP => z.1.1) e, e2.1, fun p hp => (tb p hp).1, fun p hp => ?_, fun p hp => ?_, congrArg (fun z : AlP => z.2.1) e, congrArg (fun z : AlP => z.2.2) e⟩
  · obtain ⟨_, o, q, z⟩ := tb p hp
    exact He.frT_none q z
  · obtain ⟨_, o, q, z⟩ := tb p hp
    rw [q, He.emptyTab_eq z]
def hookP (n : Nat) (fa : List He.Fa) (fn : List He.DefD) (tf : List He.Defn) (ex : PySem.W.Frag → Bool) (gs : List GetD) : PySem.W.Hook where
  α := AlP
  obs := fun s => obsP n fa fn tf ex gs s.heap.get?
  val := fun _ => valP fn gs
  says := fun _ h => ∃ K : PySem.W.Frag, K.In h ∧ SaysP fa fn tf ex gs h K
  of := fun _ _ e => ⟨_, He.frT_in, saysP_of e⟩
  keeps := fun _ _ _ ⟨K, hK, c⟩ k => ⟨K, PySem.W.Frag.In.keeps hK k, ⟨c.d, c.more, c.hd, c.out, fun p hp => k _ _ (c.empty p hp), c.fns, c.oks⟩⟩
theorem obsP_eq {n : Nat} {fa : List He.Fa} {fn : List He.DefD} {tf : List He.Defn} {ex : PySem.W.Frag → Bool} {gs : List GetD} {g : Addr → Option Obj} {s : Shared} (h : ∀ a, g a = s.heap.get? a) : obsP n fa fn tf ex gs g = (hookP n fa fn tf ex gs).obs s := by
  obtain rfl : g = s.heap.get? := funext h
  rfl
theorem SaysP.get {fa : List He.Fa} {fn : List He.DefD} {tf : List He.Defn} {ex : PySem.W.Frag → Bool} {gs : List GetD} {h : Heap} {K : PySem.W.Frag} (c : SaysP fa fn tf ex gs h K) (i : Nat) {d : GetD} (e : gs[i]? = some d := by rfl) :
    ∃ fd, FunD K d.2.name d.2.qual d.2.params d.2.body d.2.scope [] [] (getAd K d) fd := by
  have e2 : (gs.map fun d => fnAtA K (getAd K d))[i]? = (gs.map fun d => d.2.val)[i]? := by rw [c.fns]
  rw [List.getElem?_map, List.getElem?_map, e] at e2
  exact funD_at (Option.some.inj e2) (List.all_eq_true.mp c.oks d (List.mem_of_getElem? e))
theorem pe_propC {X : Cx} {k : Nat} {C p g : Addr} {f : Str} {ps : List Str} {sp : Sp} {e : Expr} {pos : Pos} {ta : TE} (c : Cls X.K C) (hp : PropOf X.K C f p g) (G : Ok X.prog X.w X.K X.mg X.base CX0 k g ps sp) (hr : Room (k + 1) X.A) (he : PE X e ta)
    (hab : attributeBase e f X.env (eval e X.env) = eval e X.env := by rfl) : PE X (.Attribute e f pos) (tProp C sp [] E0 ta) := by
  obtain ⟨fd, F, b, _⟩ := G.ok
  exact pe_prop he c hp F hr b .nil pass0 hab
theorem xfc {K : PySem.W.Frag} {C : Addr} (F : ExF K C) : XfC K C := ⟨F.ga, F.gt, F.sb, F.hd⟩
end Nw

namespace Nw
open PySem PySem.Spec PyProof.Rows L2
/-! ### tables of code objects beside the view -/
def noTb (I : Hp) : Prop := ∀ b ps, I b ≠ some (.tbl ps)
section
variable {T : Addr → Prop} {I H I' H' H1 : Hp} {Tb : List (Addr × Str)} {D : DA} {n m : Nat}
theorem Grow.noTb (g : Grow T I H I' H') (h : noTb I) : Nw.noTb I' := fun b ps e => h b ps (g.tbl b ps e)
theorem ext_sub (sb : Same I H) (h : noTb I) (e : LamX.ExtN H H1) : Same I H1 := fun b o q => e b o (sb b o q) fun ps z => h b ps (by rw [← z]; exact q)
theorem tabs_keep (t : LamX.Tabs Tb H) (g : Grow T I H I' H') (h : ∀ b o, H b = some o → ((∃ ps, o = .tbl ps) ∨ ∃ φ, o = .ext φ) → ¬ T b) : LamX.Tabs Tb H' := fun p hp => by
  obtain ⟨ps, h1, h2, h3⟩ := t p hp
  refine ⟨ps, g.keep _ _ (h _ _ h1 (.inl ⟨_, rfl⟩)) h1, h2, fun pos cv hc => ?_⟩
  obtain ⟨c, e1, e2⟩ := h3 pos cv hc
  exact ⟨c, e1, g.keep _ _ (h _ _ e2 (.inr ⟨_, rfl⟩)) e2⟩
/-- a state of a law that makes lambdas: its draws, its tables -/
structure LSt (Tb : List (Addr × Str)) (D : DA) (n : Nat) (I H : Hp) : Prop where
  drw : Drw D n I H
  nt : noTb I
  tabs : LamX.Tabs Tb H
theorem LSt.sub (s : LSt Tb D n I H) : Same I H := s.drw.sub
theorem LSt.grow (s : LSt Tb D n I H) (g : Grow No I H I' H') : LSt Tb D n I' H' := ⟨s.drw.grow g, g.noTb s.nt, tabs_keep s.tabs g fun _ _ _ _ z => z⟩
theorem LSt.draw (s : LSt Tb D n I H) (g : Grow (TD D) I H I' H') (d : Drw D m I' H') : LSt Tb D m I' H' := by
  obtain ⟨_, _, _, _, r, _⟩ := s.drw.ex
  refine ⟨d, g.noTb s.nt, tabs_keep s.tabs g fun b o e k t => ?_⟩
  rcases t with rfl | rfl | rfl
  · rw [r.hd] at e; cases e; rcases k with ⟨_, z⟩ | ⟨_, z⟩ <;> cases z
  · rw [r.hg] at e; cases e; rcases k with ⟨_, z⟩ | ⟨_, z⟩ <;> cases z
  · rw [r.hl] at e; cases e; rcases k with ⟨_, z⟩ | ⟨_, z⟩ <;> cases z
theorem LSt.mono (s : LSt Tb D n I H) (h : n ≤ m) : LSt Tb D m I H := ⟨s.drw.mono h, s.nt, s.tabs⟩
theorem Drw.ext (d : Drw D n I H) (h : noTb I) (e : LamX.ExtN H H1) : Drw D n I H1 := by
  obtain ⟨a, b, c, f, s, r⟩ := d.ex
  exact ⟨a, b, c, f, ⟨ext_sub s.sub h e, s.vd, s.vg, s.vl, s.dg, s.dl, s.gl, e _ _ s.hd (fun _ z => nomatch z), e _ _ s.hg (fun _ z => nomatch z), e _ _ s.hl (fun _ z => nomatch z)⟩, r⟩
theorem LSt.ext (s : LSt Tb D n I H) (e : LamX.ExtN H H1) (t : LamX.Tabs Tb H1) : LSt Tb D n I H1 := ⟨s.drw.ext s.nt e, s.nt, t⟩
end
/-! ### a def that calls what it got and tells the error -/
def EO (K : PySem.W.Frag) (CO : Addr) (Q : VK) : XK := fun cls d H => PySem.W.exmOne K cls (.ref CO) = some true ∧ ∀ a, H a = none → Q (.ref a) (upd H a (ExV cls d a))
def TTo (K : PySem.W.Frag) (CO : Addr) : (XK → Hp → VK → Prop) → Hp → VK → Prop := fun tl H Q => tl (EO K CO Q) H fun _ H2 => Q .non H2
section
variable {P : Program} {w : World} {K : PySem.W.Frag} {mg : Str → Option Value} {base : Heap} {k : Nat} {ps : List Str} {sp : Sp} {N : List Str}
/-- the law's def, its own code object told -/
theorem okd_ofL {t qual : Str} {st : Stmt} {fd : FuncData} (F : FunD K t qual (defArgs st) (defBody st) (defScope st) [] [] (He.ga K t) fd) (S : FnScope N ps (defScope st)) (len : ∀ vs H Q E, sp vs H Q E → vs.length = ps.length)
    (hbody : ∀ (cdv : Value) (A : Around) (outer : List Env) (s : Shared) (H : Hp) (vs : List V) (Q : VK) (E : XK), cdv = .ref (He.codeOf K (t, none)) → Room k (A.deeper (envOfC qual (defScope st) s.heap.objs.size (He.ga K t) cdv)) → sp vs H Q E →
      ∃ u, PSs (cxOf CX0 P w K mg base N qual (defScope st) (He.ga K t) cdv A outer s H E).nox (defBody st) u ∧ u { nx := fun _ H' => Q .non H', rt := Q } (start N vs) H) : FnOk P w K mg base CX0 (k + 1) (He.ga K t) fd ps sp := by
  obtain ⟨oc, od, dV, kV, doc, pm, an, cdv, ct, osl, e, lk, hcd, _⟩ := F.ex
  obtain ⟨c, rfl⟩ := He.codeIn_ref hcd
  have hc : He.codeOf K (t, none) = c := He.codeOf_eq (p := (t, none)) lk (by rw [e])
  rw [e] at lk ⊢
  refine fn_of lk hcd S len fun A outer s H vs Q E hr h => ?_
  obtain ⟨u, h1, h2⟩ := hbody (.ref c) A outer s H vs Q E (by rw [hc]) hr h
  exact ⟨u, h1.nox, h2⟩
theorem ok_ofL {t qual : Str} {st : Stmt} (F : FnAt K t qual st (He.ga K t)) (S : FnScope N ps (defScope st))
    (hb : ∀ (kV doc pm : Value) (an : Option Addr) (cdv ct : Value) (us : List Value), us.length = ps.length → bindArgs (PySem.W.fnOf t qual (defArgs st) (defBody st) (defScope st) .none kV doc pm an cdv ct) ⟨us, []⟩ = pure (ps.zip us))
    (len : ∀ vs H Q E, sp vs H Q E → vs.length = ps.length)
    (hbody : ∀ (cdv : Value) (A : Around) (outer : List Env) (s : Shared) (H : Hp) (vs : List V) (Q : VK) (E : XK), cdv = .ref (He.codeOf K (t, none)) → Room k (A.deeper (envOfC qual (defScope st) s.heap.objs.size (He.ga K t) cdv)) → sp vs H Q E →
      ∃ u, PSs (cxOf CX0 P w K mg base N qual (defScope st) (He.ga K t) cdv A outer s H E).nox (defBody st) u ∧ u { nx := fun _ H' => Q .non H', rt := Q } (start N vs) H) : Ok P w K mg base CX0 (k + 1) (He.ga K t) ps sp := by
  obtain ⟨fd, F⟩ := F
  exact ⟨fd, okd_ofL F S len hbody, F.bindsN hb, F.kp, let ⟨oc, od, _, _, _, _, _, _, _, osl, _, lk, _⟩ := F.ex; ⟨oc, od, osl, lk⟩⟩
end
/-- x(lambda: body) -/
theorem pe_told {X : Cx} {Tb : List (Addr × Str)} {TT : (XK → Hp → VK → Prop) → Hp → VK → Prop} {x a : Str} {g c P : Addr} {k : Nat} {st : Stmt} {Ng : List Str} {params : Arguments} {body : Expr} {scope : Scope} {t : XK → TE} {p lpos pos : Pos}
    (F : FnAt X.K x x st g) (S : FnScope Ng [a] (defScope st)) (hm : X.mg x = some (.ref g)) (hG : ∀ cdv, LamX.GivesTo X Ng x (defScope st) g cdv (defBody st) a (X.env.qual ++ "<lambda>") TT)
    (TB : LamX.TabB X.base X.mg c P) (hcode : X.env.code = .ref c) (hT : Tb = [(P, X.env.qual ++ "<lambda>")]) (hr : Room (k + 2) X.A) (L : LamX.LamS X.env.scope scope)
    (hbody : ∀ (A : Around) (outer : List Env) (s : Shared) (H : Hp) (E : XK) (f c' : Addr), Room k (A.deeper (LamX.lamEnv X scope s.heap.objs.size f c')) → PE (LamX.lamCx X A outer s H E scope f c') body (t E))
    (hdef : defaultsOf params X.env = ([], []) := by rfl)
    (hbind : ∀ (q : Str) (cl : List (Str × Addr)) (pm cv ctv : Value), bindArgs (PySem.W.kla_fn "<lambda>" q params body scope cl pm cv ctv) ⟨[], []⟩ = pure [] := by intro _ _ _ _ _; rfl)
    (hb : ∀ (kV doc pm : Value) (an : Option Addr) (cdv ct : Value) (us : List Value), us.length = 1 → bindArgs (PySem.W.fnOf x x (defArgs st) (defBody st) (defScope st) .none kV doc pm an cdv ct) ⟨us, []⟩ = pure ([a].zip us) := by intro _ _ _ _ _ _ us hl; match us, hl with | [_], _ => rfl)
    (hg : Gl X x := by rfl) (hNg : Ng[0]? = some a := by rfl) (hva : Vis (defScope st) a := by first | exact Or.inl rfl | exact Or.inr (Or.inl rfl)) (hdb : (x == ("__debug__" : Str)) = false := by decide) (hd : (a == ("__debug__" : Str)) = false := by decide) (hcd : (a == ("__classdict__" : Str)) = false := by decide) :
    PE X (.Call (.Name x p) [.Lambda params body scope lpos] [] pos) (LamX.tLam Tb TT t) := by
  obtain ⟨fd, F⟩ := F
  have B := F.bindsN (ps := [a]) hb
  obtain ⟨oc, od, dV, kV, doc, pm, an, cdv, ct, osl, e, lk, hcd', _⟩ := F.ex
  subst e
  exact LamX.pe_lamcall hg hm F.kp lk hcd' B S hNg hva (hG cdv) TB hcode (by rw [hT]; exact List.mem_singleton.mpr rfl) (fun q hq _ => by rw [hT] at hq; rw [List.mem_singleton.mp hq]) hr L hdef hbind hbody hdb hd hcd
/-- where one asks within the law's text, by places -/
theorem call_isVK {X : Cx} {K : PySem.W.Frag} (h : X.K = K) : CallR X (.builtin "isinstance") (rIsV K) := h ▸ call_isV
theorem call_isAK {X : Cx} {K : PySem.W.Frag} (h : X.K = K) : CallR X (.builtin "isinstance") (rIsA K) := h ▸ call_isA
/-! ### the end -/
def noT (H : Hp) : Hp := fun b => match H b with
  | some (.tbl _) => none
  | o => o
theorem noT_sub {H : Hp} : Same (noT H) H := fun b o e => by
  unfold noT at e
  split at e
  · cases e
  · exact e
theorem noT_tb {H : Hp} : noTb (noT H) := fun b ps e => by
  unfold noT at e
  split at e
  · cases e
  · rename_i h
    exact h ps e
theorem noT_at {H : Hp} {b : Addr} {o : HO} (e : H b = some o) (n : NTb o) : noT H b = some o := by
  unfold noT
  rw [e]
  cases o <;> first | rfl | exact absurd rfl (n _)
theorem noT_seq {K : PySem.W.Frag} {H : Hp} {a : Addr} {xs : List V} (h : SqL K H a xs) : SqL K (noT H) a xs := by
  rcases h with h | h
  · refine .inl ?_
    rcases h with h | ⟨o, h⟩
    · exact .inl (noT_at h fun _ z => nomatch z)
    · exact .inr ⟨o, noT_at h fun _ z => nomatch z⟩
  · exact .inr h
end Nw

namespace Nw
open PySem PySem.Spec PyProof.Rows L2
/-! ### any value -/
inductive Dat where
  | non | bl (b : Bool) | int (i : Int) | str (l : List Nat) | tup (xs : List Dat) | lst | dic | obj
inductive isD (K : PySem.W.Frag) (I : Hp) : V → Dat → Prop where
  | non : isD K I .non .non
  | bl (b : Bool) : isD K I (.bl b) (.bl b)
  | int (i : Int) : isD K I (.int i) (.int i)
  | str (l : List Nat) (h : l.length ≤ 100000) : isD K I (.str (mk l)) (.str l)
  | tup {a : Addr} {vs : List V} {xs : List Dat} (h : I a = some (.tup vs)) (hl : vs.length = xs.length) (hd : ∀ (i : Nat) (v : V) (x : Dat), vs[i]? = some v → xs[i]? = some x → isD K I v x) : isD K I (.ref a) (.tup xs)
  | lst {a : Addr} {vs : List V} (h : I a = some (.lst vs)) : isD K I (.ref a) .lst
  | dic {a : Addr} {kvs : List (Key × V)} (h : I a = some (.dK kvs)) : isD K I (.ref a) .dic
  | obj {a C dx : Addr} {fs : List (Str × V)} (h : I a = some (.ins C dx fs)) (F : InsF K C) (c : Cls K C) (k1 : PySem.W.kitOne K (.ref C) (.type "str") = some false) (k2 : PySem.W.kitOne K (.ref C) (.type "tuple") = some false) : isD K I (.ref a) .obj
theorem isD.up {K : PySem.W.Frag} {I I' : Hp} {v : V} {x : Dat} (h : isD K I v x) (e : Same I I') : isD K I' v x := by
  induction h with
  | non => exact .non
  | bl b => exact .bl b
  | int i => exact .int i
  | str l h => exact .str l h
  | tup h hl hd ih => exact .tup (e _ _ h) hl ih
  | lst h => exact .lst (e _ _ h)
  | dic h => exact .dic (e _ _ h)
  | obj h F c k1 k2 => exact .obj (e _ _ h) F c k1 k2
def Dat.isStr : Dat → Bool
  | .str _ => true
  | _ => false
def Dat.isTup : Dat → Bool
  | .tup _ => true
  | _ => false
theorem isD.ty {K : PySem.W.Frag} {I H : Hp} {v : V} {x : Dat} (h : isD K I v x) (sb : Same I H) : ∃ t, TyX K H v t ∧ PySem.W.kitOne K t (.type "str") = some x.isStr ∧ PySem.W.kitOne K t (.type "tuple") = some x.isTup := by
  cases h with
  | non => exact ⟨_, .base .non, (show _ = some false from kit_ty (by decide +kernel)), (show _ = some false from kit_ty (by decide +kernel))⟩
  | bl b => exact ⟨_, .base (.bl b), (show _ = some false from kit_ty (by decide +kernel)), (show _ = some false from kit_ty (by decide +kernel))⟩
  | int i => exact ⟨_, .base (.int i), (show _ = some false from kit_ty (by decide +kernel)), (show _ = some false from kit_ty (by decide +kernel))⟩
  | str l h => exact ⟨_, .base (.str _), (show _ = some true from kit_ty (by decide +kernel)), (show _ = some false from kit_ty (by decide +kernel))⟩
  | tup h hl hd => exact ⟨_, .base (.tup (sb _ _ h)), (show _ = some false from kit_ty (by decide +kernel)), (show _ = some true from kit_ty (by decide +kernel))⟩
  | lst h => exact ⟨_, .base (.lst (sb _ _ h)), (show _ = some false from kit_ty (by decide +kernel)), (show _ = some false from kit_ty (by decide +kernel))⟩
  | dic h => exact ⟨_, .base (.dK (sb _ _ h)), (show _ = some false from kit_ty (by decide +kernel)), (show _ = some false from kit_ty (by decide +kernel))⟩
  | obj h F c k1 k2 => exact ⟨_, F.ty c (sb _ _ h), k1, k2⟩
theorem isD.tup3 {K : PySem.W.Frag} {I : Hp} {v : V} {x y z : Dat} (h : isD K I v (.tup [x, y, z])) : ∃ a v1 v2 v3, v = .ref a ∧ I a = some (.tup [v1, v2, v3]) ∧ isD K I v1 x ∧ isD K I v2 y ∧ isD K I v3 z := by
  cases h with
  | @tup a vs xs h hl hd =>
    match vs, hl with
    | [v1, v2, v3], _ => exact ⟨a, v1, v2, v3, rfl, h, hd 0 _ _ rfl rfl, hd 1 _ _ rfl rfl, hd 2 _ _ rfl rfl⟩
theorem isD.mk3 {K : PySem.W.Frag} {I : Hp} {a : Addr} {v1 v2 v3 : V} {x y z : Dat} (h : I a = some (.tup [v1, v2, v3])) (h1 : isD K I v1 x) (h2 : isD K I v2 y) (h3 : isD K I v3 z) : isD K I (.ref a) (.tup [x, y, z]) :=
  .tup h rfl fun i v d e1 e2 => by
    match i, e1, e2 with
    | 0, e1, e2 => cases e1; cases e2; exact h1
    | 1, e1, e2 => cases e1; cases e2; exact h2
    | 2, e1, e2 => cases e1; cases e2; exact h3
/-! ### the head's look, with dicts of texts -/
abbrev TabD : Type := Str × List Str
abbrev AlQ : Type := AlP × List (Option (List (Option (Str × Int))))
def obsQ (n : Nat) (fa : List He.Fa) (fn : List He.DefD) (tf : List He.Defn) (ex : PySem.W.Frag → Bool) (gs : List GetD) (ts : List TabD) (g : Addr → Option Obj) : AlQ := (obsP n fa fn tf ex gs g, ts.map fun t => He.dicW (frP n g) (He.ga (frP n g) t.1))
structure SaysQ (fa : List He.Fa) (fn : List He.DefD) (tf : List He.Defn) (ex : PySem.W.Frag → Bool) (gs : List GetD) (ts : List TabD) (w : World) (h : Heap) (K : PySem.W.Frag) : Prop extends SaysP fa fn tf ex gs h K where
  dics : (ts.map fun t => He.dicW K (He.ga K t.1)) = ts.map fun t => some (He.keysIn w.params t.2)
def hookQ (n : Nat) (fa : List He.Fa) (fn : List He.DefD) (tf : List He.Defn) (ex : PySem.W.Frag → Bool) (gs : List GetD) (ts : List TabD) : PySem.W.Hook where
  α := AlQ
  obs := fun s => obsQ n fa fn tf ex gs ts s.heap.get?
  val := fun w => (valP fn gs, ts.map fun t => some (He.keysIn w.params t.2))
  says := fun w h => ∃ K : PySem.W.Frag, K.In h ∧ SaysQ fa fn tf ex gs ts w h K
  of := fun w s e => by
    have z1 : obsP n fa fn tf ex gs s.heap.get? = valP fn gs := congrArg (fun z : AlQ => z.1) e
    have z2 : (ts.map fun t => He.dicW (frP n s.heap.get?) (He.ga (frP n s.heap.get?) t.1)) = ts.map fun t => some (He.keysIn w.params t.2) := congrArg (fun z : AlQ => z.2) e
    exact ⟨_, He.frT_in, saysP_of z1, z2⟩
  keeps := fun _ _ _ ⟨K, hK, c⟩ k => ⟨K, PySem.W.Frag.In.keeps hK k, ⟨c.d, c.more, c.hd, c.out, fun p hp => k _ _ (c.empty p hp), c.fns, c.oks⟩, c.dics⟩
theorem obsQ_eq {n : Nat} {fa : List He.Fa} {fn : List He.DefD} {tf : List He.Defn} {ex : PySem.W.Frag → Bool} {gs : List GetD} {ts : List TabD} {g : Addr → Option Obj} {s : Shared} (h : ∀ a, g a = s.heap.get? a) : obsQ n fa fn tf ex gs ts g = (hookQ n fa fn tf ex gs ts).obs s := by
  obtain rfl : g = s.heap.get? := funext h
  rfl
theorem SaysQ.tab {fa : List He.Fa} {fn : List He.DefD} {tf : List He.Defn} {ex : PySem.W.Frag → Bool} {gs : List GetD} {ts : List TabD} {w : World} {h : Heap} {K : PySem.W.Frag} (c : SaysQ fa fn tf ex gs ts w h K) (i : Nat) {t : TabD} (e : ts[i]? = some t := by rfl) :
    ∃ es n, KDict K w (He.ga K t.1) es n := by
  have e2 : (ts.map fun t => He.dicW K (He.ga K t.1))[i]? = (ts.map fun t => some (He.keysIn w.params t.2))[i]? := by rw [c.dics]
  rw [List.getElem?_map, List.getElem?_map, e] at e2
  exact He.dicW_ok (Option.some.inj e2)
/-- what a written dict holds -/
theorem kdct_of {K : PySem.W.Frag} {w : World} {a : Addr} {es : Array DictEntry} {n : Nat} {kvs : List (Str × He.Dv)} (D : KDict K w a es n) (h : He.valsB K a kvs = true) {q : Str × He.Dv} (hq : q ∈ kvs) : KDct K w a q.1 (q.2.v K) := by
  obtain ⟨u, h1, h2⟩ := He.valsB_ok h hq
  exact ⟨es, n, u, D.1, D.2, h1, h2⟩
end Nw

namespace Nw
open PySem PySem.Spec PyProof.Rows L2
/-! ### texts cut and doubled -/
theorem foldl_reps : ∀ (k : Nat) (l acc : List Nat), (List.replicate k l.toArray).foldl (fun x y => x ++ y) acc.toArray = (acc ++ (List.replicate k l).flatten).toArray
  | 0, _, acc => by simp
  | k + 1, l, acc => by
    rw [List.replicate_succ, List.foldl_cons, show acc.toArray ++ l.toArray = (acc ++ l).toArray by simp, foldl_reps k l (acc ++ l), List.replicate_succ, List.flatten_cons, List.append_assoc]
/-- a text times a number -/
theorem op_mulS {X : Cx} : OpR X (binaryOp .Mult) (fun x y H Q => ∃ (l : List Nat) (k : Nat), x = .str (mk l) ∧ y = .int k ∧ 2 ≤ k ∧ k ≤ 1000 ∧ l ≠ [] ∧ l.length ≤ 1000 ∧ Q (.str (mk (List.replicate k l).flatten)) H) := by
  intro pins s σ H x y v u Q I rx ry h
  obtain ⟨l, k, rfl, rfl, h1, h2, h3, h4, q⟩ := h
  obtain ⟨t, rfl⟩ := rx
  obtain ⟨t', rfl⟩ := ry
  have hlen : (mk l).length = l.length := by simp [mk, Str.length]
  have hpos : 0 < l.length := List.length_pos_iff.mpr h3
  have hn : ¬ ((k : Int) < 1) := by omega
  have hm : l.length * k ≤ 1000 * 1000 := Nat.mul_le_mul h4 h2
  have hfl : ((List.replicate k l).flatten).length = k * l.length := by simp
  have hlt : Builtin.Str.tooLong (l.length * k) = false := by
    unfold Builtin.Str.tooLong
    exact decide_eq_false (by rw [sizeLine_eq]; omega)
  refine PySem.P.mul_str (by rw [decide_eq_false (by omega), decide_eq_false (by omega)] <;> rfl) (fun _ _ => ?_) (fun _ _ => ?_) ?_
  · rw [hlen]
    have z : (1000 : Int) ≤ (2 ^ 63 - 1) / (k : Int) := Int.le_ediv_of_mul_le (by omega) (by omega)
    omega
  · rw [hlen, Int.toNat_natCast]
    exact hlt
  · rw [if_neg hn]
    have hc : ((k : Int) == 1 || (mk l).length == 0) = false := by
      rw [hlen, Bool.or_eq_false_iff]
      exact ⟨by simp; omega, by simp; exact h3⟩
    rw [hc, if_neg Bool.false_ne_true]
    have e : (⟨(List.replicate (k : Int).toNat (mk l).cps).foldl (· ++ ·) #[]⟩ : Str) = mk (List.replicate k l).flatten := by
      rw [Int.toNat_natCast]
      have z := foldl_reps k l []
      simp only [List.nil_append] at z
      show (⟨_⟩ : Str) = ⟨_⟩
      exact congrArg Str.mk z
    rw [e]
    refine ⟨?_, ⟨.str (mk (List.replicate k l).flatten), H, I.tok _, ⟨_, rfl⟩, q⟩⟩
    show (mk (List.replicate k l).flatten).length ≤ sizeLine
    have z : (mk (List.replicate k l).flatten).length = (List.replicate k l).flatten.length := by simp [mk, Str.length]
    rw [z, hfl, sizeLine_eq, Nat.mul_comm]
    omega
theorem cutS_take (l : List Nat) (k : Nat) : cutS (mk l) none (some (k : Int)) = mk (l.take k) := by
  unfold cutS HT.sIx
  have hlen : (mk l).length = l.length := by simp [mk, Str.length]
  simp only [List.drop_zero, Nat.sub_zero, hlen]
  show Str.mk _ = Str.mk _
  congr 2
  have e : (mk l).cps.toList = l := by simp [mk]
  rw [e]
  by_cases h : k ≤ l.length
  · congr 1
    rw [if_neg (by omega)]
    omega
  · rw [List.take_of_length_le (by omega : l.length ≤ k)]
    apply List.take_of_length_le
    rw [if_neg (by omega)]
    omega
theorem cutS_drop (l : List Nat) (k : Nat) : cutS (mk l) (some (k : Int)) none = mk (l.drop k) := by
  unfold cutS HT.sIx
  have hlen : (mk l).length = l.length := by simp [mk, Str.length]
  simp only [hlen]
  show Str.mk _ = Str.mk _
  congr 2
  have e : (mk l).cps.toList = l := by simp [mk]
  rw [e]
  rw [if_neg (by omega), Int.toNat_natCast]
  by_cases h : k ≤ l.length
  · rw [Nat.min_eq_left h]
    apply List.take_of_length_le
    rw [List.length_drop]
    omega
  · rw [Nat.min_eq_right (by omega), List.drop_of_length_le (Nat.le_refl _), List.drop_of_length_le (by omega)]
    simp
end Nw

namespace Nw
open PySem PySem.Spec PyProof.Rows L2
/-! ### promises of calls that stand under no guard, so that containers can be shown -/
structure FnG (P : Program) (w : World) (K : PySem.W.Frag) (mg : Str → Option Value) (base : Heap) (CX : CXT) (k : Nat) (f : Addr) (fd : FuncData) (ps : List Str) (sp : Sp) : Prop where
  len : ∀ vs H Q E, sp vs H Q E → vs.length = ps.length
  run : ∀ (A : Around) (outer : List Env) (s : Shared) (H : Hp) (args : Args) (us : List Value) (vs : List V) (Q : VK) (E : XK), Room k A → A.guards = some [] → Env0 P w K mg base A outer s H → BindsTo s fd args (ps.zip us) → Vals vs us → sp vs H Q E →
    codeAny (model P w) A (.call (.ref f) args) (CR CX outer P w H s Q E) s
structure OkG (P : Program) (w : World) (K : PySem.W.Frag) (mg : Str → Option Value) (base : Heap) (CX : CXT) (k : Nat) (f : Addr) (ps : List Str) (sp : Sp) : Prop where
  ok : ∃ fd, FnG P w K mg base CX k f fd ps sp ∧ Binds K fd ps [] ∧ PySem.W.keepIn K (.ref f) = true
section
variable {P : Program} {w : World} {K : PySem.W.Frag} {mg : Str → Option Value} {base : Heap} {X : Cx} {CX : CXT} {k : Nat} {f : Addr} {fd : FuncData} {ps N : List Str} {sp : Sp} {x qual : Str} {st : Stmt} {pos ppos : Pos} {e : Expr} {es : List Expr} {t : TA}
theorem FnG.of (F : FnOk P w K mg base CX k f fd ps sp) : FnG P w K mg base CX k f fd ps sp := ⟨F.len, fun A outer s H args us vs Q E hr _ => F.run A outer s H args us vs Q E hr⟩
theorem Ok.toG (G : Ok P w K mg base CX k f ps sp) : OkG P w K mg base CX k f ps sp := by
  obtain ⟨fd, F, b, kp, _⟩ := G.ok
  exact ⟨fd, .of F, b, kp⟩
/-- a def's body, its own code object told -/
theorem fng_of (F : FunD K x qual (defArgs st) (defBody st) (defScope st) [] [] f fd) (S : FnScope N ps (defScope st)) (len : ∀ vs H Q E, sp vs H Q E → vs.length = ps.length)
    (hbody : ∀ (cdv : Value) (A : Around) (outer : List Env) (s : Shared) (H : Hp) (vs : List V) (Q : VK) (E : XK), Room k (A.deeper (envOfC qual (defScope st) s.heap.objs.size f cdv)) → A.guards = some [] → sp vs H Q E →
      ∃ u, PSs (cxOf CX0 P w K mg base N qual (defScope st) f cdv A outer s H E).nox (defBody st) u ∧ u { nx := fun _ H' => Q .non H', rt := Q } (start N vs) H) : FnG P w K mg base CX0 (k + 1) f fd ps sp := by
  obtain ⟨oc, od, dV, kV, doc, pm, an, cdv, ct, osl, e, lk, hcd, _⟩ := F.ex
  subst e
  refine ⟨len, fun A outer s H args us vs Q E hr hg e0 hb r hsp => ?_⟩
  refine LamX.run_ofS (N := N) (ps := ps) lk hcd S hr e0 hb r (len _ _ _ _ hsp) fun hr' => ?_
  obtain ⟨u, h1, h2⟩ := hbody cdv A outer s H vs Q E hr' hg hsp
  exact ⟨u, h1.nox, h2⟩
/-- the law's own, its code object told -/
theorem fngL_of {y : Str} (F : FunD K y qual (defArgs st) (defBody st) (defScope st) [] [] (He.ga K y) fd) (S : FnScope N ps (defScope st)) (len : ∀ vs H Q E, sp vs H Q E → vs.length = ps.length)
    (hbody : ∀ (cdv : Value) (A : Around) (outer : List Env) (s : Shared) (H : Hp) (vs : List V) (Q : VK) (E : XK), cdv = .ref (He.codeOf K (y, none)) → Room k (A.deeper (envOfC qual (defScope st) s.heap.objs.size (He.ga K y) cdv)) → A.guards = some [] → sp vs H Q E →
      ∃ u, PSs (cxOf CX0 P w K mg base N qual (defScope st) (He.ga K y) cdv A outer s H E).nox (defBody st) u ∧ u { nx := fun _ H' => Q .non H', rt := Q } (start N vs) H) : FnG P w K mg base CX0 (k + 1) (He.ga K y) fd ps sp := by
  obtain ⟨oc, od, dV, kV, doc, pm, an, cdv, ct, osl, e, lk, hcd, _⟩ := F.ex
  obtain ⟨c, rfl⟩ := He.codeIn_ref hcd
  have hc : He.codeOf K (y, none) = c := He.codeOf_eq (p := (y, none)) lk (by rw [e])
  subst e
  refine ⟨len, fun A outer s H args us vs Q E hr hg e0 hb r hsp => ?_⟩
  refine LamX.run_ofS (N := N) (ps := ps) lk hcd S hr e0 hb r (len _ _ _ _ hsp) fun hr' => ?_
  obtain ⟨u, h1, h2⟩ := hbody (.ref c) A outer s H vs Q E (by rw [hc]) hr' hg hsp
  exact ⟨u, h1.nox, h2⟩
theorem okg_of (F : FnAt K x qual st f) (S : FnScope N ps (defScope st))
    (hb : ∀ (kV doc pm : Value) (an : Option Addr) (cdv ct : Value) (us : List Value), us.length = ps.length → bindArgs (PySem.W.fnOf x qual (defArgs st) (defBody st) (defScope st) .none kV doc pm an cdv ct) ⟨us, []⟩ = pure (ps.zip us))
    (len : ∀ vs H Q E, sp vs H Q E → vs.length = ps.length)
    (hbody : ∀ (cdv : Value) (A : Around) (outer : List Env) (s : Shared) (H : Hp) (vs : List V) (Q : VK) (E : XK), Room k (A.deeper (envOfC qual (defScope st) s.heap.objs.size f cdv)) → A.guards = some [] → sp vs H Q E →
      ∃ u, PSs (cxOf CX0 P w K mg base N qual (defScope st) f cdv A outer s H E).nox (defBody st) u ∧ u { nx := fun _ H' => Q .non H', rt := Q } (start N vs) H) : OkG P w K mg base CX0 (k + 1) f ps sp := by
  obtain ⟨fd, F⟩ := F
  exact ⟨fd, fng_of F S len hbody, F.bindsN hb, F.kp⟩
/-- f(e, ..) where no guard stands -/
theorem pe_callG (hgd : X.A.guards = some []) (G : OkG X.prog X.w X.K X.mg X.base CX0 k f ps sp) (hr : Room k X.A) (hm : X.mg x = some (.ref f)) (ha : PA X (e :: es) t) (hg : Gl X x := by rfl) (hdb : (x == ("__debug__" : Str)) = false := by decide)
    (he : starEach (e :: es) X.env = (false, eval e X.env) :: starEach es X.env := by rfl) (hpl : (backTo pos (starEach es X.env)).any (·.1) = false := by rfl) : PE X (.Call (.Name x ppos) (e :: es) [] pos) (tCall sp [] E0 t) := by
  obtain ⟨fd, F, b, kp⟩ := G.ok
  refine ⟨fun pins s σ H Q I h => wpAny_Call_Name_kw (ld_glob I hg hm (PySem.W.callWith_K (h₀ := X.base) I.ok.mod.kin kp (thn (ha.run pos pins s σ H _ I h) fun us s1 ⟨vs, H1, I1, r, q⟩ => ⟨I1.kIn, ?_⟩) he hpl) hdb)⟩
  have q0 : sp (vs ++ []) H1 Q E0 := q
  have q' : sp vs H1 Q E0 := by rw [List.append_nil] at q0; exact q0
  have hl : us.length = ps.length := by rw [← r.length]; exact F.len _ _ _ _ q'
  have bt := b s1 us I1.kIn (by rw [List.append_nil]; exact hl)
  rw [List.append_nil] at bt
  refine wpAny_call (codeAny_mono (F.run X.A X.stack s1 H1 ⟨us, []⟩ us vs Q E0 hr hgd I1.env0 bt r q') fun r' s' hq => ?_)
  cases r' with
  | error e => exact (show False from hq).elim
  | ok fl =>
    cases fl with
    | ret u => exact I1.after hq
    | next => exact (show False from hq).elim
    | brk => exact (show False from hq).elim
    | cont => exact (show False from hq).elim
theorem un70 {k : Nat} {A : Around} (r : Room k A) : A.units + 70 < cLine := by have := r.un; omega
/-- repr of data at any depth -/
theorem call_reprD (hgd : X.A.guards = some []) (hu : X.A.units + 70 < cLine) : CallR X (.builtin "repr") (fun xs H Q => ∃ v d, xs = [v] ∧ Dp X.K H v d ∧ d.showable = true ∧ d.hasDict = false ∧ d.depth ≤ 64 ∧ d.shown.length ≤ sizeLine ∧ Q (.str d.shown) H) := by
  intro pins s σ H xs us Q I r h
  obtain ⟨v, d, rfl, hd, h1, h2, h3, h4, q⟩ := h
  obtain ⟨u, rfl, ru⟩ := vals1 r
  cases hd with
  | non =>
    cases ru
    exact PySem.P.repr_of_none ⟨.str _, H, I.tok _, ⟨_, rfl⟩, q⟩
  | bl b =>
    cases ru
    exact PySem.P.repr_of_bool ⟨.str _, H, I.tok _, ⟨_, rfl⟩, q⟩
  | int i =>
    obtain ⟨t, rfl⟩ := ru
    exact PySem.P.repr_of_int (of_decide_eq_true h1) ⟨.str _, H, I.tok _, ⟨_, rfl⟩, q⟩
  | str z =>
    obtain ⟨t, rfl⟩ := ru
    exact PySem.P.repr_of_str ⟨.str _, H, I.tok _, ⟨_, rfl⟩, q⟩ h4
  | @lst a xs ds hs ha =>
    have hd' : Dp X.K H (.ref a) (.list ds) := .lst hs ha
    obtain ⟨as, rd⟩ := Dp.reads I _ _ _ hd' ru
    cases ru
    exact repr_of_reads' rd h1 (fun z => by rw [h2] at z; cases z) hgd (by omega) (fun _ _ z => z) (fun h' u tk hk => ⟨.str _, H, I.kept (t' := tk) hk, ⟨_, rfl⟩, q⟩) h4
  | @tup a xs ds hs ha =>
    have hd' : Dp X.K H (.ref a) (.tuple ds) := .tup hs ha
    obtain ⟨as, rd⟩ := Dp.reads I _ _ _ hd' ru
    cases ru
    exact repr_of_reads' rd h1 (fun z => by rw [h2] at z; cases z) hgd (by omega) (fun _ _ z => z) (fun h' u tk hk => ⟨.str _, H, I.kept (t' := tk) hk, ⟨_, rfl⟩, q⟩) h4
end
end Nw

namespace Nw
open PySem PySem.Spec PyProof.Rows L2
/-! ### the end, for a law that shows containers -/
section
variable {P : Program} {w : World} {K : PySem.W.Frag} {mg mb : Str → Option Value} {k : Nat} {fa a : Addr} {fd : FuncData} {x : Str} {sp : Sp} {s₁ : Shared} {vs : List Value} {ns : List Int}
/-- what is tracked at the law's call: the script, if the module's part does not tell it -/
def scr (K : PySem.W.Frag) (a : Addr) (vs : List Value) (ns : List Int) : Hp := fun b => if b = a ∧ K.lookup a = none then some (.frz { cls := .type "list", data := .seq vs.toArray } (.lst (ns.map V.int))) else none
theorem scr_at {b : Addr} {u : HO} (h : scr K a vs ns b = some u) : b = a ∧ K.lookup a = none ∧ u = .frz { cls := .type "list", data := .seq vs.toArray } (.lst (ns.map V.int)) := by
  unfold scr at h
  split at h
  · rename_i c
    exact ⟨c.1, c.2, (Option.some.inj h).symm⟩
  · cases h
theorem scr_no {b : Addr} (h : ¬ (b = a ∧ K.lookup a = none)) : scr K a vs ns b = none := if_neg h
theorem law_callG (KX : K.In s₁.heap) (hns : s₁.heap.Ns mainGlobals mg) (hb : s₁.heap.Ns builtinsNs mb) (hbb : ∀ x : Str, x ≠ "__name__" → mb x = bootBuiltins x) (hlim : s₁.heap.NoLimit) (hg : s₁.gens = #[])
    (ha : s₁.heap.get? a = some { cls := .type "list", data := .seq vs.toArray }) (hi : IntsAre vs ns) (hl : ns.length ≤ sizeLine) (hr : Room k callerA)
    (F : ∀ base : Heap, K.In base → base.Ns mainGlobals mg → FnG P w K mg base CX0 k fa fd [x] sp) (hbind : ∀ (s : Shared) (u : Value), BindsTo s fd ⟨[u], []⟩ [(x, u)])
    (hsp : ∀ H : Hp, SqL K H a (ns.map V.int) → sp [.ref a] H (fun v _ => v = .bl true) fun _ _ _ => False) :
    codeAny (model P w) callerA (.call (.ref fa) ⟨[.ref a], []⟩) (fun r s' => r = .ok (.ret (.bool true)) ∧ OldK s₁.heap s'.heap ∧ s'.os = s₁.os ∧ AllBare s'.gens) s₁ := by
  have rv := vals_ints hi
  have lenV := hi.length
  have hS : SqL K (scr K a vs ns) a (ns.map V.int) := by
    cases hk : K.lookup a with
    | some o =>
      have e := KX a o hk
      rw [ha] at e
      cases e
      exact .inr ⟨_, vs.toArray, _, hk, rfl, rfl, rfl, by rw [List.size_toArray, lenV]; exact hl, by simpa using rv⟩
    | none => exact .inl (.inr ⟨{ cls := .type "list", data := .seq vs.toArray }, if_pos ⟨rfl, hk⟩⟩)
  have hok : HOk P w (scr K a vs ns) s₁.heap := fun b u z => by
    obtain ⟨rfl, _, rfl⟩ := scr_at z
    exact ⟨ha, by rw [List.length_map]; exact hl, vs, _, rv, ha⟩
  -- a namespace is no script
  have untr : ∀ {b : Addr} {o : Obj} {es : Array DictEntry} {ep : Nat}, s₁.heap.get? b = some o → o.data = .dict es ep → scr K a vs ns b = none := fun {b o es ep} e d => by
    refine scr_no fun c => ?_
    rw [c.1, ha] at e
    cases e
    have d' : Data.seq vs.toArray _ = Data.dict es ep := d
    cases d'
  have nsK : ∀ {b : Addr} {m : Str → Option Value}, s₁.heap.Ns b m → (hidT s₁.heap (scr K a vs ns)).Ns b m := fun {b m} ⟨o, es, ep, e, d, r⟩ => ⟨o, es, ep, hidT_get e (untr e d), d, r⟩
  have hKb : K.In (hidT s₁.heap (scr K a vs ns)) := fun b o e => hidT_get (KX b o e) (scr_no fun c => by rw [c.1, c.2] at e; cases e)
  have hM : Mod K mg (hidT s₁.heap (scr K a vs ns)) := ⟨hKb, nsK hns, ⟨mb, nsK hb, hbb⟩, let ⟨mc, h1, h2⟩ := hlim; ⟨mc, nsK h1, h2⟩⟩
  have e0 : Env0 P w K mg (hidT s₁.heap (scr K a vs ns)) callerA [] s₁ (scr K a vs ns) := ⟨rfl, hM, fun b o e => of_hidT e, Nat.le_of_eq (hidT_size _ _), trivial, (fun b hb => absurd (show b ∈ ([] : List Addr) from hb) (by simp)), hok, .of_eq hg⟩
  refine codeAny_mono ((F _ hKb (nsK hns)).run callerA [] s₁ _ ⟨[.ref a], []⟩ [.ref a] [.ref a] _ _ hr rfl e0 (hbind s₁ (.ref a)) (.cons rfl .nil) (hsp _ hS)) fun r s' h => ?_
  cases r with
  | error e => exact (show False from h).elim
  | ok fl =>
    cases fl with
    | next => exact (show False from h).elim
    | brk => exact (show False from h).elim
    | cont => exact (show False from h).elim
    | ret u =>
      obtain ⟨v, H', os, bare, un, hok', r', q⟩ := h
      obtain rfl : v = .bl true := q
      obtain rfl : u = Value.bool true := r'
      refine ⟨rfl, OldK.of_keep fun b o e => ?_, os, bare⟩
      cases q : scr K a vs ns b with
      | none => exact un.keep b o e q (fun z => absurd (show b ∈ ([] : List Addr) from z) (by simp)) (by simp)
      | some u =>
        obtain ⟨rfl, hk, rfl⟩ := scr_at q
        have z2 := un.frzs b _ _ q
        obtain ⟨e2, _⟩ := hok' b _ z2
        rw [ha] at e
        cases e
        exact e2
end
theorem walk_ofG {l : PySem.W.OpenLaw} {n k : Nat} {q : Program} {loose : List Str} {XP : (Str → Option Value) → Heap → Prop} {YP : World → Heap → Prop} {d : DefRec} {x : Str}
    (hn : l.most = some n) (hn2 : n ≤ sizeLine) (hdf : d.params.defaults = []) (hr : Room k callerA)
    (F : ∀ (w : World) (mg : Str → Option Value) (fa : Addr) (h : Heap), YP w h → h.Ns mainGlobals mg → mg d.name = some (.ref fa) →
      ∃ (K : PySem.W.Frag) (fd : FuncData) (sp : Sp), K.In h ∧ (∀ (s : Shared) (u : Value), BindsTo s fd ⟨[u], []⟩ [(x, u)]) ∧
        (∀ (H : Hp) (a : Addr) (ns : List Int), ns.length ≤ n → SqL K H a (ns.map V.int) → sp [.ref a] H (fun v _ => v = .bl true) fun _ _ _ => False) ∧
        ∀ base : Heap, K.In base → base.Ns mainGlobals mg → FnG l.prog w K mg base CX0 k fa fd [x] sp) :
    PySem.W.WalkO q loose XP YP l.row.toRowW d [] (fun f vs => PySem.call f vs) := by
  refine Att.attach_call hn hdf fun w s₀ s₁ mg mb fa o pm cd doc a vs ns G Y ho hd hcd hmg hobj hints hlen hg => ?_
  obtain ⟨K, fd, sp, KX, hb, hsp, hF⟩ := F w mg fa _ Y G.T.g hmg
  exact law_callG KX G.T.g G.T.b G.T.builtins G.T.nolimit hg hobj hints (Nat.le_trans hlen hn2) hr hF hb fun H hS => hsp H a ns hlen hS
end Nw

namespace Nw
open PySem PySem.Spec PyProof.Rows L2
/-! ### the same for a law that makes lambdas, too -/
section
variable {P : Program} {w : World} {K : PySem.W.Frag} {mg mb : Str → Option Value} {k : Nat} {fa a : Addr} {fd : FuncData} {x : Str} {sp : Sp} {s₁ : Shared} {vs : List Value} {ns : List Int} {cs : List (Addr × Addr)}
/-- what is tracked: the script, if the module's part does not tell it, and the tables -/
def trt (K : PySem.W.Frag) (a : Addr) (vs : List Value) (ns : List Int) (cs : List (Addr × Addr)) : Hp := fun b => if b ∈ cs.map (·.2) then some (.tbl #[]) else scr K a vs ns b
theorem trt_at {b : Addr} {u : HO} (h : trt K a vs ns cs b = some u) : (b ∈ cs.map (·.2) ∧ u = .tbl #[]) ∨ (b ∉ cs.map (·.2) ∧ scr K a vs ns b = some u) := by
  unfold trt at h
  split at h
  · rename_i c
    exact .inl ⟨c, (Option.some.inj h).symm⟩
  · rename_i c
    exact .inr ⟨c, h⟩
theorem trt_no {b : Addr} (h1 : b ∉ cs.map (·.2)) (h2 : ¬ (b = a ∧ K.lookup a = none)) : trt K a vs ns cs b = none := (if_neg h1).trans (scr_no h2)
theorem law_callGT (KX : K.In s₁.heap) (hns : s₁.heap.Ns mainGlobals mg) (hb : s₁.heap.Ns builtinsNs mb) (hbb : ∀ x : Str, x ≠ "__name__" → mb x = bootBuiltins x) (hlim : s₁.heap.NoLimit) (hg : s₁.gens = #[])
    (hT : ∀ p ∈ cs, s₁.heap.get? p.2 = some { cls := .none, data := .fields #[] }) (nT : ∀ p ∈ cs, K.lookup p.2 = none) (hh : ∀ p ∈ cs, PySem.W.codeHdIn K p.1 p.2 = true)
    (hbm : ∃ (bm : Addr) (ob : Obj), mg "__builtins__" = some (.ref bm) ∧ bm ≠ builtinsNs ∧ s₁.heap.get? bm = some ob ∧ ob.cls = .type "module" ∧ ob.dict = some builtinsNs ∧ ob.data = .plain)
    (ha : s₁.heap.get? a = some { cls := .type "list", data := .seq vs.toArray }) (hi : IntsAre vs ns) (hl : ns.length ≤ sizeLine) (hr : Room k callerA)
    (F : ∀ base : Heap, K.In base → base.Ns mainGlobals mg → (∀ p ∈ cs, LamX.TabB base mg p.1 p.2) → FnG P w K mg base CX0 k fa fd [x] sp) (hbind : ∀ (s : Shared) (u : Value), BindsTo s fd ⟨[u], []⟩ [(x, u)])
    (hsp : ∀ H : Hp, (∀ p ∈ cs, H p.2 = some (.tbl #[])) → SqL K H a (ns.map V.int) → sp [.ref a] H (fun v _ => v = .bl true) fun _ _ _ => False) :
    codeAny (model P w) callerA (.call (.ref fa) ⟨[.ref a], []⟩) (fun r s' => r = .ok (.ret (.bool true)) ∧ OldK s₁.heap s'.heap ∧ s'.os = s₁.os ∧ AllBare s'.gens) s₁ := by
  have rv := vals_ints hi
  have lenV := hi.length
  have isT : ∀ b : Addr, b ∈ cs.map (·.2) → s₁.heap.get? b = some { cls := .none, data := .fields #[] } := fun b hb => by
    obtain ⟨p, hp, e⟩ := List.mem_map.mp hb
    rw [← e]
    exact hT p hp
  have aT : a ∉ cs.map (·.2) := fun z => by
    have q := isT a z
    rw [ha] at q
    have z' : Data.seq vs.toArray _ = Data.fields #[] := congrArg Obj.data (Option.some.inj q)
    cases z'
  have hTr : ∀ p ∈ cs, trt K a vs ns cs p.2 = some (.tbl #[]) := fun p hp => if_pos (List.mem_map.mpr ⟨p, hp, rfl⟩)
  have hS : SqL K (trt K a vs ns cs) a (ns.map V.int) := by
    cases hk : K.lookup a with
    | some o =>
      have e := KX a o hk
      rw [ha] at e
      cases e
      exact .inr ⟨_, vs.toArray, _, hk, rfl, rfl, rfl, by rw [List.size_toArray, lenV]; exact hl, by simpa using rv⟩
    | none => exact .inl (.inr ⟨{ cls := .type "list", data := .seq vs.toArray }, (if_neg aT).trans (if_pos ⟨rfl, hk⟩)⟩)
  have hok : HOk P w (trt K a vs ns cs) s₁.heap := fun b u z => by
    rcases trt_at z with ⟨hm, rfl⟩ | ⟨_, z⟩
    · exact isT b hm
    · obtain ⟨rfl, _, rfl⟩ := scr_at z
      exact ⟨ha, by rw [List.length_map]; exact hl, vs, _, rv, ha⟩
  -- neither the script nor a table
  have untr : ∀ {b : Addr} {o : Obj}, s₁.heap.get? b = some o → (∀ us n, o.data ≠ .seq us n) → o.data ≠ .fields #[] → trt K a vs ns cs b = none := fun {b o} e h1 h2 =>
    trt_no (fun m => by rw [isT b m] at e; cases e; exact h2 rfl) (fun c => by rw [c.1, ha] at e; cases e; exact h1 _ _ rfl)
  have nsK : ∀ {b : Addr} {m : Str → Option Value}, s₁.heap.Ns b m → (hidT s₁.heap (trt K a vs ns cs)).Ns b m := fun {b m} ⟨o, es, ep, e, d, r⟩ => ⟨o, es, ep, hidT_get e (untr e (fun _ _ z => by rw [d] at z; cases z) fun z => by rw [d] at z; cases z), d, r⟩
  have hKb : K.In (hidT s₁.heap (trt K a vs ns cs)) := fun b o e => hidT_get (KX b o e) (trt_no (fun m => by
    obtain ⟨p, hp, ep⟩ := List.mem_map.mp m
    rw [← ep, nT p hp] at e
    cases e) fun c => by rw [c.1, c.2] at e; cases e)
  have hM : Mod K mg (hidT s₁.heap (trt K a vs ns cs)) := ⟨hKb, nsK hns, ⟨mb, nsK hb, hbb⟩, let ⟨mc, h1, h2⟩ := hlim; ⟨mc, nsK h1, h2⟩⟩
  have gNs : ∃ o es ep, s₁.heap.get? mainGlobals = some o ∧ o.data = .dict es ep := let ⟨o, es, ep, e, d, _⟩ := hns; ⟨o, es, ep, e, d⟩
  obtain ⟨og, eg, pg, g1, g2⟩ := gNs
  have TB : ∀ p ∈ cs, LamX.TabB (hidT s₁.heap (trt K a vs ns cs)) mg p.1 p.2 := fun p hp => by
    obtain ⟨bm, ob, b1, b2, b3, b4, b5, b6⟩ := hbm
    refine ⟨PySem.W.codeHd_of_K hKb (hh p hp), ⟨bm, ob, b1, b2, fun q => ?_, fun q => ?_, hidT_get b3 (untr b3 (fun _ _ z => by rw [b6] at z; cases z) fun z => by rw [b6] at z; cases z), b4, b5, b6⟩, fun q => ?_⟩
    · rw [q, g1] at b3
      cases b3
      rw [g2] at b6
      cases b6
    · rw [q, hT p hp] at b3
      cases b3
      cases b6
    · rw [q, hT p hp] at g1
      cases g1
      cases g2
  have e0 : Env0 P w K mg (hidT s₁.heap (trt K a vs ns cs)) callerA [] s₁ (trt K a vs ns cs) := ⟨rfl, hM, fun b o e => of_hidT e, Nat.le_of_eq (hidT_size _ _), trivial, (fun b hb => absurd (show b ∈ ([] : List Addr) from hb) (by simp)), hok, .of_eq hg⟩
  refine codeAny_mono ((F _ hKb (nsK hns) TB).run callerA [] s₁ _ ⟨[.ref a], []⟩ [.ref a] [.ref a] _ _ hr rfl e0 (hbind s₁ (.ref a)) (.cons rfl .nil) (hsp _ hTr hS)) fun r s' h => ?_
  cases r with
  | error e => exact (show False from h).elim
  | ok fl =>
    cases fl with
    | next => exact (show False from h).elim
    | brk => exact (show False from h).elim
    | cont => exact (show False from h).elim
    | ret u =>
      obtain ⟨v, H', os, bare, un, hok', r', q⟩ := h
      obtain rfl : v = .bl true := q
      obtain rfl : u = Value.bool true := r'
      have same : ∀ b o, b ∉ cs.map (·.2) → s₁.heap.get? b = some o → s'.heap.get? b = some o := fun b o nb e => by
        cases q : trt K a vs ns cs b with
        | none => exact un.keep b o e q (fun z => absurd (show b ∈ ([] : List Addr) from z) (by simp)) (by simp)
        | some u =>
          rcases trt_at q with ⟨m, _⟩ | ⟨_, z⟩
          · exact absurd m nb
          · obtain ⟨rfl, hk, rfl⟩ := scr_at z
            obtain ⟨e2, _⟩ := hok' b _ (un.frzs b _ _ q)
            rw [ha] at e
            cases e
            exact e2
      have grown : ∀ b, b ∈ cs.map (·.2) → ∃ more : Array Value, s'.heap.get? b = some { cls := .none, data := .fields more } ∧ ∃ p ∈ cs, p.2 = b := fun b m => by
        obtain ⟨p, hp, rfl⟩ := List.mem_map.mp m
        obtain ⟨more, z⟩ := un.tbls p.2 #[] (hTr p hp)
        exact ⟨_, hok' p.2 _ z, p, hp, rfl⟩
      refine ⟨rfl, ⟨fun b o e => ?_, fun b o e => ?_⟩, os, bare⟩
      · by_cases m : b ∈ cs.map (·.2)
        · obtain ⟨more, hm, p, hp, rfl⟩ := grown b m
          rw [hT p hp] at e
          cases e
          exact .inr (.inl ⟨((PySem.W.codeHd_of_K KX (hh p hp)).tab (hT p hp)).isCodeTable, rfl, #[], more, rfl, by rw [Array.empty_append]; exact hm⟩)
        · exact .inl (same b o m e)
      · by_cases m : b ∈ cs.map (·.2)
        · obtain ⟨more, hm, _⟩ := grown b m
          exact ⟨_, hm⟩
        · exact ⟨o, same b o m e⟩
end
theorem walk_ofGT {l : PySem.W.OpenLaw} {n k : Nat} {q : Program} {loose : List Str} {XP : (Str → Option Value) → Heap → Prop} {YP : World → Heap → Prop} {d : DefRec} {x : Str}
    (hn : l.most = some n) (hn2 : n ≤ sizeLine) (hdf : d.params.defaults = []) (hr : Room k callerA)
    (F : ∀ (w : World) (mg : Str → Option Value) (fa : Addr) (h : Heap), YP w h → h.Ns mainGlobals mg → mg d.name = some (.ref fa) →
      ∃ (K : PySem.W.Frag) (fd : FuncData) (cs : List (Addr × Addr)) (sp : Sp), K.In h ∧ (∀ p ∈ cs, h.get? p.2 = some { cls := .none, data := .fields #[] }) ∧ (∀ p ∈ cs, K.lookup p.2 = none) ∧ (∀ p ∈ cs, PySem.W.codeHdIn K p.1 p.2 = true) ∧ (∀ (s : Shared) (u : Value), BindsTo s fd ⟨[u], []⟩ [(x, u)]) ∧
        (∀ (H : Hp) (a : Addr) (ns : List Int), ns.length ≤ n → (∀ p ∈ cs, H p.2 = some (.tbl #[])) → SqL K H a (ns.map V.int) → sp [.ref a] H (fun v _ => v = .bl true) fun _ _ _ => False) ∧
        ∀ base : Heap, K.In base → base.Ns mainGlobals mg → (∀ p ∈ cs, LamX.TabB base mg p.1 p.2) → FnG l.prog w K mg base CX0 k fa fd [x] sp) :
    PySem.W.WalkO q loose XP YP l.row.toRowW d [] (fun f vs => PySem.call f vs) := by
  refine Att.attach_call hn hdf fun w s₀ s₁ mg mb fa o pm cd doc a vs ns G Y ho hd hcd hmg hobj hints hlen hg => ?_
  obtain ⟨K, fd, cs, sp, KX, hT, nT, hh, hb, hsp, hF⟩ := F w mg fa _ Y G.T.g hmg
  exact law_callGT KX G.T.g G.T.b G.T.builtins G.T.nolimit hg hT nT hh G.T.bmain hobj hints (Nat.le_trans hlen hn2) hr hF hb fun H hH hS => hsp H a ns hlen hH hS
end Nw

namespace Nw
open PySem PySem.Spec PyProof.Rows L2
theorem len_app (a b : Str) : (a ++ b).length = a.length + b.length := by
  show (a.cps ++ b.cps).size = _
  simp [Str.length]
theorem textFrom_le : ∀ (ts : List Str) (k : Nat) (acc : Str), (textFrom k acc ts).length ≤ acc.length + piled ts
  | [], k, acc => by show acc.length ≤ _; omega
  | t :: r, k, acc => by
    have h := textFrom_le r (k + 1) (acc ++ (if k > 0 then ", " else "" : String) ++ t)
    have e : (acc ++ (if k > 0 then ", " else "" : String) ++ t : Str).length ≤ acc.length + 2 + t.length := by
      rw [len_app, len_app]
      have z : ((if k > 0 then ", " else "" : String) : Str).length ≤ 2 := by split <;> decide
      omega
    show (textFrom (k + 1) _ r).length ≤ acc.length + piled (t :: r)
    have p : piled (t :: r) = t.length + 2 + piled r := rfl
    omega
theorem listText_le (ts : List Str) : (listText ts).length ≤ piled ts + 2 := by
  unfold listText
  rw [len_app]
  have h := textFrom_le ts 0 "["
  have e1 : ("[" : Str).length = 1 := by decide
  have e2 : ("]" : Str).length = 1 := by decide
  omega
theorem tupleText_le (ts : List Str) : (tupleText ts).length ≤ piled ts + 3 := by
  unfold tupleText
  rw [len_app, len_app]
  have e1 : ("(" : Str).length = 1 := by decide
  have e2 : ((if ts.length == 1 then ",)" else ")" : String) : Str).length ≤ 2 := by split <;> decide
  cases ts with
  | nil =>
    have e3 : (Str.join ", " ([] : List Str)).length = 0 := rfl
    omega
  | cons t r =>
    have h := join_length_add (t :: r) (by simp)
    omega
theorem nat_shown : ∀ i : Fin 1001, ((toString ((i.val : Nat) : Int) : String) : Str).length ≤ 4 := by decide +kernel
end Nw

namespace Nw
open PySem PySem.Spec PyProof.Rows L2
/-! ### what repr shows of data fits a line: a measure that is easily computed -/
mutual
def rm : PyData → Nat
  | .none => 4
  | .bool _ => 5
  | .int _ => 1921
  | .str x => 10 * x.length + 2
  | .list xs => rmAll xs + 2
  | .tuple xs => rmAll xs + 3
  | .dict _ => 0
def rmAll : List PyData → Nat
  | [] => 0
  | x :: xs => (rm x + 2) + rmAll xs
end
theorem strOk_lt {x : Str} (h : PyData.strOk x = true) : ∀ c ∈ x.cps.toList, c < 16 ^ 8 := fun c hc => by
  unfold PyData.strOk at h
  rw [Array.all_eq_true'] at h
  have z := of_decide_eq_true (h c (Array.mem_toList_iff.mp hc))
  omega
mutual
theorem shown_le : ∀ d : PyData, d.canLay0 = true → d.showable = true → d.shown.length ≤ rm d
  | .none, _, _ => by simp only [PyData.shown, rm]; decide
  | .bool b, _, _ => by cases b <;> simp only [PyData.shown, rm] <;> decide
  | .int i, _, h => by
    simp only [PyData.showable, decide_eq_true_eq] at h
    simp only [PyData.shown, rm]
    exact int_text_len_1921 h
  | .str x, h, _ => by
    simp only [PyData.canLay0] at h
    simp only [PyData.shown, rm]
    exact PySem.StrLaws.reprText_len x (strOk_lt h)
  | .list xs, h, k => by
    simp only [PyData.canLay0] at h
    simp only [PyData.showable] at k
    simp only [PyData.shown, rm]
    have z := shownAll_le xs h k
    have y := listText_le (PyData.shownAll xs)
    omega
  | .tuple xs, h, k => by
    simp only [PyData.canLay0] at h
    simp only [PyData.showable] at k
    simp only [PyData.shown, rm]
    have z := shownAll_le xs h k
    have y := tupleText_le (PyData.shownAll xs)
    omega
  | .dict _, h, _ => by simp [PyData.canLay0] at h
theorem shownAll_le : ∀ xs : List PyData, PyData.canLayAll0 xs = true → PyData.showableAll xs = true → piled (PyData.shownAll xs) ≤ rmAll xs
  | [], _, _ => by simp only [PyData.shownAll, rmAll]; exact Nat.le_refl _
  | x :: xs, h, k => by
    simp only [PyData.canLayAll0, Bool.and_eq_true] at h
    simp only [PyData.showableAll, Bool.and_eq_true] at k
    simp only [PyData.shownAll, rmAll, piled_cons]
    have z := shown_le x h.1 k.1
    have y := shownAll_le xs h.2 k.2
    omega
end
/-- repr shows it -/
structure Shows (d : PyData) : Prop where
  lay : d.canLay0 = true
  sh : d.showable = true
  deep : d.depth ≤ 64
  few : rm d ≤ sizeLine
theorem Shows.len {d : PyData} (s : Shows d) : d.shown.length ≤ sizeLine := Nat.le_trans (shown_le d s.lay s.sh) s.few
theorem Shows.nd {d : PyData} (s : Shows d) : d.hasDict = false := PyData.hasDict_of_canLay d s.lay
theorem rmAll_le {n : Nat} : ∀ xs : List PyData, (∀ x ∈ xs, rm x ≤ n) → rmAll xs ≤ xs.length * (n + 2)
  | [], _ => by simp [rmAll]
  | x :: xs, h => by
    have z := rmAll_le xs fun y hy => h y (List.mem_cons_of_mem _ hy)
    have y := h x (List.mem_cons_self ..)
    simp only [rmAll, List.length_cons]
    rw [Nat.add_mul]
    omega
theorem lay_all : ∀ xs : List PyData, (∀ x ∈ xs, x.canLay0 = true) → PyData.canLayAll0 xs = true
  | [], _ => rfl
  | x :: xs, h => by
    simp only [PyData.canLayAll0, Bool.and_eq_true]
    exact ⟨h x (List.mem_cons_self ..), lay_all xs fun y hy => h y (List.mem_cons_of_mem _ hy)⟩
theorem showable_all : ∀ xs : List PyData, (∀ x ∈ xs, x.showable = true) → PyData.showableAll xs = true
  | [], _ => rfl
  | x :: xs, h => by
    simp only [PyData.showableAll, Bool.and_eq_true]
    exact ⟨h x (List.mem_cons_self ..), showable_all xs fun y hy => h y (List.mem_cons_of_mem _ hy)⟩
theorem depth_all {n : Nat} : ∀ xs : List PyData, (∀ x ∈ xs, x.depth ≤ n) → PyData.depthAll xs ≤ n
  | [], _ => by simp [PyData.depthAll]
  | x :: xs, h => by
    have z := depth_all xs fun y hy => h y (List.mem_cons_of_mem _ hy)
    have y := h x (List.mem_cons_self ..)
    simp only [PyData.depthAll]
    omega
theorem showable_int {i : Int} {k : Nat} (h : i.natAbs < 2 ^ 1920) : (PyData.int i).showable = true := by
  simp only [PyData.showable, decide_eq_true_eq]
  by_cases z : i.natAbs = 0
  · rw [z]; decide
  · exact (Nat.log2_lt z).mpr h
theorem showable_nat {i : Nat} (h : i < 100000) : (PyData.int (i : Nat)).showable = true := by
  simp only [PyData.showable, decide_eq_true_eq]
  show (i : Int).natAbs.log2 < 1920
  rw [Int.natAbs_natCast]
  by_cases z : i = 0
  · rw [z]; decide
  · refine Nat.lt_of_lt_of_le ((Nat.log2_lt z).mpr (show i < 2 ^ 17 by omega)) (by decide)
section
variable {K : PySem.W.Frag} {H H' : Hp}
theorem sqL_up {a : Addr} {xs : List V} (h : SqL K H a xs) (e : Same H H') : SqL K H' a xs := h.elim (fun z => .inl (z.elim (fun q => .inl (e _ _ q)) fun ⟨o, q⟩ => .inr ⟨o, e _ _ q⟩)) .inr
theorem sqT_up {a : Addr} {xs : List V} (h : SqT K H a xs) (e : Same H H') : SqT K H' a xs := h.elim (fun z => .inl (z.elim (fun q => .inl (e _ _ q)) fun ⟨o, q⟩ => .inr ⟨o, e _ _ q⟩)) .inr
mutual
theorem dp_up (e : Same H H') : ∀ (d : PyData) (v : V), Dp K H v d → Dp K H' v d
  | .none, _, .non => .non
  | .bool b, _, .bl _ => .bl b
  | .int i, _, .int _ => .int i
  | .str x, _, .str _ => .str x
  | .list ds, _, .lst h t => .lst (sqL_up h e) (dp_upAll e ds _ t)
  | .tuple ds, _, .tup h t => .tup (sqT_up h e) (dp_upAll e ds _ t)
theorem dp_upAll (e : Same H H') : ∀ (ds : List PyData) (vs : List V), DpAll K H vs ds → DpAll K H' vs ds
  | [], _, .nil => .nil
  | d :: ds, _, .cons h t => .cons (dp_up e d _ h) (dp_upAll e ds _ t)
end
theorem Dp.up {v : V} {d : PyData} (h : Dp K H v d) (e : Same H H') : Dp K H' v d := dp_up e d v h
end
end Nw

namespace Nw
open PySem PySem.Spec PyProof.Rows L2
/-! ### any value, with what stands in lists, too; bools and ints are told apart -/
inductive Dt where
  | non | bl (b : Bool) | int (i : Int) | str (l : List Nat) | sq (t : Bool) (xs : List Dt) | dic | obj
/-- an own class that is none of these kinds -/
structure NoKit (K : PySem.W.Frag) (C : Addr) : Prop where
  str : PySem.W.kitOne K (.ref C) (.type "str") = some false
  tup : PySem.W.kitOne K (.ref C) (.type "tuple") = some false
  lst : PySem.W.kitOne K (.ref C) (.type "list") = some false
  int : PySem.W.kitOne K (.ref C) (.type "int") = some false
  bool : PySem.W.kitOne K (.ref C) (.type "bool") = some false
inductive isE (K : PySem.W.Frag) (I : Hp) : V → Dt → Prop where
  | non : isE K I .non .non
  | bl (b : Bool) : isE K I (.bl b) (.bl b)
  | int (i : Int) : isE K I (.int i) (.int i)
  | str (l : List Nat) (h : l.length ≤ 100000) : isE K I (.str (mk l)) (.str l)
  | sq {t : Bool} {a : Addr} {vs : List V} {xs : List Dt} (h : I a = some (ho t vs)) (hl : vs.length = xs.length) (hd : ∀ (i : Nat) (v : V) (x : Dt), vs[i]? = some v → xs[i]? = some x → isE K I v x) : isE K I (.ref a) (.sq t xs)
  | dic {a : Addr} {kvs : List (Key × V)} (h : I a = some (.dK kvs)) : isE K I (.ref a) .dic
  | obj {a C dx : Addr} {fs : List (Str × V)} (h : I a = some (.ins C dx fs)) (F : InsF K C) (c : Cls K C) (k : NoKit K C) : isE K I (.ref a) .obj
/-- what stands in a list or a tuple -/
structure Es (K : PySem.W.Frag) (I : Hp) (vs : List V) (xs : List Dt) : Prop where
  len : vs.length = xs.length
  at_ : ∀ (i : Nat) (v : V) (x : Dt), vs[i]? = some v → xs[i]? = some x → isE K I v x
section
variable {K : PySem.W.Frag} {I I' H : Hp} {v : V} {x : Dt}
theorem isE.up (h : isE K I v x) (e : Same I I') : isE K I' v x := by
  induction h with
  | non => exact .non
  | bl b => exact .bl b
  | int i => exact .int i
  | str l h => exact .str l h
  | sq h hl hd ih => exact .sq (e _ _ h) hl ih
  | dic h => exact .dic (e _ _ h)
  | obj h F c k => exact .obj (e _ _ h) F c k
theorem Es.up {vs : List V} {xs : List Dt} (h : Es K I vs xs) (e : Same I I') : Es K I' vs xs := ⟨h.len, fun i v x h1 h2 => (h.at_ i v x h1 h2).up e⟩
theorem Es.nil : Es K I [] [] := ⟨rfl, fun i v x h _ => by simp at h⟩
theorem Es.cons {vs : List V} {xs : List Dt} (h : isE K I v x) (t : Es K I vs xs) : Es K I (v :: vs) (x :: xs) := ⟨congrArg (· + 1) t.len, fun i u y h1 h2 => by
  match i, h1, h2 with
  | 0, h1, h2 => cases h1; cases h2; exact h
  | i + 1, h1, h2 => exact t.at_ i u y h1 h2⟩
theorem Es.app {vs ws : List V} {xs ys : List Dt} (h : Es K I vs xs) (t : Es K I ws ys) : Es K I (vs ++ ws) (xs ++ ys) := by
  induction xs generalizing vs with
  | nil =>
    cases vs with
    | nil => exact t
    | cons v vs => exact absurd h.len (by simp)
  | cons x xs ih =>
    cases vs with
    | nil => exact absurd h.len (by simp)
    | cons v vs => exact .cons (h.at_ 0 v x rfl rfl) (ih ⟨Nat.succ.inj h.len, fun i u y h1 h2 => h.at_ (i + 1) u y h1 h2⟩)
theorem Es.mem {vs : List V} {xs : List Dt} (h : Es K I vs xs) {j : Nat} (e : vs[j]? = some v) : ∃ x, xs[j]? = some x ∧ isE K I v x := by
  have hj : j < vs.length := (List.getElem?_eq_some_iff.mp e).1
  have hk : j < xs.length := by rw [← h.len]; exact hj
  exact ⟨xs[j], List.getElem?_eq_getElem hk, h.at_ j v _ e (List.getElem?_eq_getElem hk)⟩
theorem Es.get {vs : List V} {xs : List Dt} (h : Es K I vs xs) {j : Nat} (e : xs[j]? = some x) : ∃ v, vs[j]? = some v ∧ isE K I v x := by
  have hj : j < xs.length := (List.getElem?_eq_some_iff.mp e).1
  have hk : j < vs.length := by rw [h.len]; exact hj
  exact ⟨vs[j], List.getElem?_eq_getElem hk, h.at_ j _ x (List.getElem?_eq_getElem hk) e⟩
theorem Es.take {vs : List V} {xs : List Dt} (h : Es K I vs xs) (n : Nat) : Es K I (vs.take n) (xs.take n) := ⟨by rw [List.length_take, List.length_take, h.len], fun i v x h1 h2 => by
  rw [List.getElem?_take] at h1 h2
  split at h1
  · rename_i c
    rw [if_pos c] at h2
    exact h.at_ i v x h1 h2
  · cases h1⟩
theorem Es.drop {vs : List V} {xs : List Dt} (h : Es K I vs xs) (n : Nat) : Es K I (vs.drop n) (xs.drop n) := ⟨by rw [List.length_drop, List.length_drop, h.len], fun i v x h1 h2 => by
  rw [List.getElem?_drop] at h1 h2
  exact h.at_ _ v x h1 h2⟩
theorem isE.of {t : Bool} {a : Addr} {vs : List V} {xs : List Dt} (h : I a = some (ho t vs)) (e : Es K I vs xs) : isE K I (.ref a) (.sq t xs) := .sq h e.len e.at_
theorem isE.inv {t : Bool} {xs : List Dt} (h : isE K I v (.sq t xs)) : ∃ a vs, v = .ref a ∧ I a = some (ho t vs) ∧ Es K I vs xs := by
  cases h with
  | sq h hl hd => exact ⟨_, _, rfl, h, hl, hd⟩
def Dt.isStr : Dt → Bool
  | .str _ => true
  | _ => false
def Dt.isTup : Dt → Bool
  | .sq t _ => t
  | _ => false
def Dt.isLst : Dt → Bool
  | .sq t _ => !t
  | _ => false
def Dt.isInt : Dt → Bool
  | .int _ => true
  | .bl _ => true
  | _ => false
def Dt.isBool : Dt → Bool
  | .bl _ => true
  | _ => false
def Dt.isNum : Dt → Bool
  | .int _ => true
  | _ => false
structure Kits (K : PySem.W.Frag) (t : Value) (x : Dt) : Prop where
  str : PySem.W.kitOne K t (.type "str") = some x.isStr
  tup : PySem.W.kitOne K t (.type "tuple") = some x.isTup
  lst : PySem.W.kitOne K t (.type "list") = some x.isLst
  int : PySem.W.kitOne K t (.type "int") = some x.isInt
  bool : PySem.W.kitOne K t (.type "bool") = some x.isBool
theorem isE.ty (h : isE K I v x) (sb : Same I H) : ∃ t, TyX K H v t ∧ Kits K t x := by
  cases h with
  | non => exact ⟨_, .base .non, (show _ = some false from kit_ty (by decide +kernel)), (show _ = some false from kit_ty (by decide +kernel)), (show _ = some false from kit_ty (by decide +kernel)), (show _ = some false from kit_ty (by decide +kernel)), (show _ = some false from kit_ty (by decide +kernel))⟩
  | bl b => exact ⟨_, .base (.bl b), (show _ = some false from kit_ty (by decide +kernel)), (show _ = some false from kit_ty (by decide +kernel)), (show _ = some false from kit_ty (by decide +kernel)), (show _ = some true from kit_ty (by decide +kernel)), (show _ = some true from kit_ty (by decide +kernel))⟩
  | int i => exact ⟨_, .base (.int i), (show _ = some false from kit_ty (by decide +kernel)), (show _ = some false from kit_ty (by decide +kernel)), (show _ = some false from kit_ty (by decide +kernel)), (show _ = some true from kit_ty (by decide +kernel)), (show _ = some false from kit_ty (by decide +kernel))⟩
  | str l h => exact ⟨_, .base (.str _), (show _ = some true from kit_ty (by decide +kernel)), (show _ = some false from kit_ty (by decide +kernel)), (show _ = some false from kit_ty (by decide +kernel)), (show _ = some false from kit_ty (by decide +kernel)), (show _ = some false from kit_ty (by decide +kernel))⟩
  | @sq t a vs xs h hl hd =>
    cases t
    · exact ⟨_, .base (.lst (sb _ _ h)), (show _ = some false from kit_ty (by decide +kernel)), (show _ = some false from kit_ty (by decide +kernel)), (show _ = some true from kit_ty (by decide +kernel)), (show _ = some false from kit_ty (by decide +kernel)), (show _ = some false from kit_ty (by decide +kernel))⟩
    · exact ⟨_, .base (.tup (sb _ _ h)), (show _ = some false from kit_ty (by decide +kernel)), (show _ = some true from kit_ty (by decide +kernel)), (show _ = some false from kit_ty (by decide +kernel)), (show _ = some false from kit_ty (by decide +kernel)), (show _ = some false from kit_ty (by decide +kernel))⟩
  | dic h => exact ⟨_, .base (.dK (sb _ _ h)), (show _ = some false from kit_ty (by decide +kernel)), (show _ = some false from kit_ty (by decide +kernel)), (show _ = some false from kit_ty (by decide +kernel)), (show _ = some false from kit_ty (by decide +kernel)), (show _ = some false from kit_ty (by decide +kernel))⟩
  | obj h F c k => exact ⟨_, F.ty c (sb _ _ h), k.str, k.tup, k.lst, k.int, k.bool⟩
theorem Kits.seq {t : Value} (k : Kits K t x) : PySem.W.kitAny K t [.type "list", .type "tuple"] = some (x.isLst || x.isTup) := by
  cases h : x.isLst with
  | true => exact kitAny_cons (b := true) (by rw [k.lst, h]) (fun z => nomatch z) (fun _ => rfl)
  | false => exact kitAny_cons (b := false) (by rw [k.lst, h]) (fun _ => kitAny_cons (b := x.isTup) k.tup (fun z => by rw [z]; exact kitAny_nil) (fun z => z)) (fun z => nomatch z)
end
/-! ### such values as data that are shown -/
mutual
def Dt.py : Dt → PyData
  | .non => .none
  | .bl b => .bool b
  | .int i => .int i
  | .str l => .str (mk l)
  | .sq false xs => .list (Dt.pys xs)
  | .sq true xs => .tuple (Dt.pys xs)
  | .dic => .none
  | .obj => .none
def Dt.pys : List Dt → List PyData
  | [] => []
  | x :: xs => x.py :: Dt.pys xs
end
mutual
/-- no dict, no object -/
def Dt.plain : Dt → Bool
  | .dic => false
  | .obj => false
  | .sq _ xs => Dt.plains xs
  | _ => true
def Dt.plains : List Dt → Bool
  | [] => true
  | x :: xs => x.plain && Dt.plains xs
end
mutual
theorem dp_isE {K : PySem.W.Frag} {I H : Hp} (sb : Same I H) : ∀ (x : Dt) (v : V), isE K I v x → x.plain = true → Dp K H v x.py
  | .non, _, h, _ => by cases h; exact .non
  | .bl b, _, h, _ => by cases h; exact .bl b
  | .int i, _, h, _ => by cases h; exact .int i
  | .str l, _, h, _ => by cases h; exact .str _
  | .sq t xs, _, h, p => by
    obtain ⟨a, vs, rfl, ha, es⟩ := h.inv
    have z := dp_Es sb xs vs es p
    cases t
    · exact .lst (SqL.of (sb _ _ ha)) z
    · exact .tup (SqT.of (sb _ _ ha)) z
  | .dic, _, _, p => by cases p
  | .obj, _, _, p => by cases p
theorem dp_Es {K : PySem.W.Frag} {I H : Hp} (sb : Same I H) : ∀ (xs : List Dt) (vs : List V), Es K I vs xs → Dt.plains xs = true → DpAll K H vs (Dt.pys xs)
  | [], vs, h, _ => by
    cases vs with
    | nil => exact .nil
    | cons v vs => exact absurd h.len (by simp)
  | x :: xs, vs, h, p => by
    cases vs with
    | nil => exact absurd h.len (by simp)
    | cons v vs =>
      have p' : (x.plain && Dt.plains xs) = true := p
      rw [Bool.and_eq_true] at p'
      exact .cons (dp_isE sb x v (h.at_ 0 v x rfl rfl) p'.1) (dp_Es sb xs vs ⟨Nat.succ.inj h.len, fun i u y h1 h2 => h.at_ (i + 1) u y h1 h2⟩ p'.2)
end
/-! ### a guarded def that makes lambdas, its own code object told -/
theorem okgL_of {P : Program} {w : World} {K : PySem.W.Frag} {mg : Str → Option Value} {base : Heap} {k : Nat} {ps N : List Str} {sp : Sp} {t qual : Str} {st : Stmt} (F : FnAt K t qual st (He.ga K t)) (S : FnScope N ps (defScope st))
    (hb : ∀ (kV doc pm : Value) (an : Option Addr) (cdv ct : Value) (us : List Value), us.length = ps.length → bindArgs (PySem.W.fnOf t qual (defArgs st) (defBody st) (defScope st) .none kV doc pm an cdv ct) ⟨us, []⟩ = pure (ps.zip us))
    (len : ∀ vs H Q E, sp vs H Q E → vs.length = ps.length)
    (hbody : ∀ (cdv : Value) (A : Around) (outer : List Env) (s : Shared) (H : Hp) (vs : List V) (Q : VK) (E : XK), cdv = .ref (He.codeOf K (t, none)) → Room k (A.deeper (envOfC qual (defScope st) s.heap.objs.size (He.ga K t) cdv)) → A.guards = some [] → sp vs H Q E →
      ∃ u, PSs (cxOf CX0 P w K mg base N qual (defScope st) (He.ga K t) cdv A outer s H E).nox (defBody st) u ∧ u { nx := fun _ H' => Q .non H', rt := Q } (start N vs) H) : OkG P w K mg base CX0 (k + 1) (He.ga K t) ps sp := by
  obtain ⟨fd, F⟩ := F
  exact ⟨fd, fngL_of F S len hbody, F.bindsN hb, F.kp⟩
/-- two fields: one error goes out -/
def outF (C : Addr) (fs : List (Str × V)) (E : XK) (I H : Hp) : Prop := ∀ I' H' dx, Grow No I H I' H' → H' dx = some (.xd fs) → E (.ref C) (some dx) H'
theorem outF.grow {C : Addr} {fs : List (Str × V)} {E : XK} {I H I' H' : Hp} (k : outF C fs E I H) (g : Grow No I H I' H') : outF C fs E I' H' := fun I2 H2 dx g2 h => k I2 H2 dx (g.trans g2) h
end Nw

namespace Nw
open PySem PySem.Spec PyProof.Rows L2
/-! ### xs.count(y), flat values -/
def rCntV (K : PySem.W.Frag) : V → List V → Hp → VK → Prop := fun x xs H Q => ∃ (p : Addr) (ys : List V) (y : V), x = .ref p ∧ xs = [y] ∧ SqL K H p ys ∧ flatV y = true ∧ ys.all flatV = true ∧ Q (.int (ys.countP (fun z => eqV z y) : Nat)) H
theorem count_eqU {x : V} : ∀ {xs : List V} {us : List Value}, Vals xs us → xs.all flatV = true → us.countP (eqU x) = xs.countP fun y => eqV y x
  | _, _, .nil, _ => rfl
  | y :: xs, u :: us, .cons r t, f => by
    rw [List.all_cons, Bool.and_eq_true] at f
    rw [List.countP_cons, List.countP_cons, eqU_of r f.1, count_eqU t f.2]
theorem mt_countV {X : Cx} : MtR X "list.count" (rCntV X.K) := by
  intro pins s σ H x xs v us Q I rx rxs h
  obtain ⟨p, ys, y, rfl, rfl, hs, fy, fs, q⟩ := h
  cases rx
  obtain ⟨u, rfl, ru⟩ := rxs.one
  obtain ⟨its, rv, pl, hz⟩ := I.list hs
  obtain ⟨⟨cls, dd, data, sl⟩, n, ho, hc, hdn, hd⟩ := pl
  simp only at hc hd
  subst hc hd
  have at_ : ∀ {A : Around} {s' : Shared}, ∀ w ∈ its.toArray, SeqAt.EqAt A s' w u (eqU y w) := fun w hw => mem_eqAt ru fy rv fs w (by simpa using hw)
  refine call_meets PySem.F.slot_list_count ⟨_, ho, rfl⟩ PySem.F.entry_list_count (PySem.F.args_list_count_2 _ _) (SeqAt.list_countAt p its.toArray n dd sl u (eqU y)) ⟨ho, at_, ?_⟩
  have ec : its.toArray.toList.countP (eqU y) = ys.countP fun z => eqV z y := count_eqU rv fs
  refine ⟨.int (ys.countP (fun z => eqV z y) : Nat), H, I.tok _, ⟨s.toks, ?_⟩, q⟩
  show Value.int ((its.toArray.toList.countP (eqU y) : Nat) : Int) s.toks = _
  rw [ec]
/-! ### == and != of data, within a comprehension -/
theorem op_eqDK {X : Cx} {K : PySem.W.Frag} (h : X.K = K) (hu : X.A.units + 64 < cLine) : OpR X (compareOp .Eq) (rEqD K) := h ▸ op_eqD hu
theorem op_neDK {X : Cx} {K : PySem.W.Frag} (h : X.K = K) (hu : X.A.units + 64 < cLine) : OpR X (compareOp .NotEq) (rNeD K) := h ▸ op_neD hu
end Nw

namespace Nw
open PySem PySem.Spec PyProof.Rows L2
section
variable {X : Cx} {k : Nat} {f C : Addr} {fd : FuncData} {ps : List Str} {sp : Sp}
/-- the same, a tuple at the other side -/
def rOwnBT (C : Addr) (sp : Sp) (g : Bool → Bool) : R2 := fun x y H Q => ∃ a b dx fs xs, x = .ref a ∧ y = .ref b ∧ H a = some (.ins C dx fs) ∧ H b = some (.tup xs) ∧ sp [.ref a, .ref b] H (fun v H' => ∃ t, v = .bl t ∧ Q (.bl (g t)) H') E0
theorem op_own_neT (hsub : PySem.W.subIn X.K (.type "tuple") (.ref C) = some false) (M : Meth X.K C "__eq__" f) (hne : PySem.W.findIn X.K (.ref C) "__ne__" = some (some (.builtin "object.__ne__"))) (hob : PySem.W.subIn X.K (.ref C) (.type "object") = some true)
    (F : FnOk X.prog X.w X.K X.mg X.base CX0 k f fd ps sp) (hr : Room (k + 1) X.A) (hb : Binds X.K fd ps []) : OpR X (compareOp .NotEq) (rOwnBT C sp not) := by
  intro pins s σ H x y v u Q I rx ry h
  obtain ⟨a, b, dx, fs, gs, rfl, rfl, ha, hb', q⟩ := h
  cases rx
  cases ry
  obtain ⟨mA, J, _⟩ := ins_get I.hok ha
  obtain ⟨its, rv, ⟨ob, hob2, hcb, _⟩, _⟩ := I.tuple (SqT.of hb')
  obtain ⟨od, J, _⟩ := J.look
  obtain ⟨m, hF⟩ := I.fr
  have Xk := I.kIn
  show wpAny (model X.prog X.w) X.A (richCompare .NotEq (.ref a) (.ref b)) (EP X pins σ Q) X.xe s
  have r2 : Vals [V.ref a, V.ref b] [Value.ref a, Value.ref b] := .cons rfl (.cons rfl .nil)
  have e0 : Env0 X.prog X.w X.K X.mg X.base X.A.in1 X.stack s H := I.env0.in1
  have hl : (([.ref a, .ref b] : List Value) ++ []).length = ps.length := by
    have := F.len _ _ _ _ q
    simpa using this
  -- the own ==, one deeper
  have own : wpAny (model X.prog X.w) X.A.in1 (call (.ref f) [.ref a, .ref b]) (EP X pins σ (fun v H' => ∃ t, v = .bl t ∧ Q (.bl (!t)) H')) X.xe s := by
    refine wpAny_call (codeAny_mono (F.run X.A.in1 X.stack s H ⟨[.ref a, .ref b], []⟩ [.ref a, .ref b] [.ref a, .ref b] _ E0 hr.in1 e0 (by
      have := hb s [.ref a, .ref b] I.kIn hl
      simpa using this) r2 q) fun r s' hq => ?_)
    cases r with
    | error e => exact pass0 pins σ H s e s' I hq
    | ok fl =>
      cases fl with
      | ret w => exact I.after hq
      | next => exact False.elim hq
      | brk => exact False.elim hq
      | cont => exact False.elim hq
  have neq : wpAny (model X.prog X.w) X.A.in1 (Builtin.«object.__ne__» ⟨[.ref a, .ref b], []⟩) (fun fin s' => ∃ t, fin = .done (.ret (.bool t)) ∧ EP X pins σ Q (.bool t) s') X.xe s := by
    unfold Builtin.«object.__ne__»
    refine wpAny_bind (m := slotArgs "__ne__" 1 ⟨[.ref a, .ref b], []⟩) ?_
    refine (show wpAny _ _ (pure (Value.ref a, [Value.ref b])) _ _ _ from wpAny_pure ?_)
    refine wpAny_bind (wpAny_cRoomFor hr.in1.units0 ?_)
    refine wpAny_bind (PySem.W.ifBound_K Xk J M.at_ M.fn (wpAny_mono own (fun v s' hv => ?_) fun _ _ e => e))
    obtain ⟨z, H', I', rz, t, rfl, q'⟩ := hv
    cases rz
    refine wpAny_bind (wpAny_truthy_bool ?_)
    exact wpAny_pure ⟨!t, rfl, .bl (!t), H', I', rfl, q'⟩
  have one : wpAny (model X.prog X.w) X.A (tryCompare (.ref a) "__ne__" (.ref b)) (fun r s' => ∃ v, r = some v ∧ EP X pins σ Q v s') X.xe s := by
    unfold tryCompare
    refine wpAny_bind (ifBoundB_K Xk J hne slot_ne (wpAny_call (codeAny_call_builtin slot_ne.plain PySem.F.cmpEntry_ne (check_slotK Xk J PySem.F.cmpKind_ne PySem.F.cmpSplit_ne (PySem.F.cmpArgs_ne _ _) hob ?_))))
    refine wpAny_mono neq (fun fin s' hv => ?_) fun e s' z => z
    obtain ⟨t, rfl, q'⟩ := hv
    exact wpAny_pure ⟨_, rfl, q'⟩
  unfold richCompare
  simp only [oneThing_ref]
  refine wpAny_holding (wpAny_bind (wpAny_cRoomFor hr.units0 ?_))
  refine wpAny_bind (J.type.here (wpAny_bind (wpAny_typeOf_ref hob2 ?_)))
  rw [hcb]
  have ne : (Value.ref C != Value.type "tuple") = true := rfl
  simp only [ne, if_true]
  refine wpAny_bind ((PySem.W.looks_subIn Xk hsub).here ?_)
  simp only [Bool.false_eq_true, if_false]
  refine wpAny_bind (wpAny_mono one (fun r s' z => ?_) fun _ _ e => e)
  obtain ⟨v, rfl, hq⟩ := z
  exact wpAny_pure hq
end
end Nw

namespace Nw
open PySem PySem.Spec PyProof.Rows L2
/-! ### repr of an empty dict beside a text; lambdas within comprehensions -/
section
variable {X : Cx}
/-- data as in call_reprD, or a text and an empty dict in a tuple -/
def rReprE (K : PySem.W.Frag) : List V → Hp → VK → Prop := fun xs H Q => (∃ v d, xs = [v] ∧ Dp K H v d ∧ d.showable = true ∧ d.hasDict = false ∧ d.depth ≤ 64 ∧ d.shown.length ≤ sizeLine ∧ Q (.str d.shown) H) ∨
  ∃ (a b : Addr) (z : Str), xs = [.ref a] ∧ SqT K H a [.str z, .ref b] ∧ H b = some (.dK []) ∧ (PyData.tuple [.str z, .dict []]).shown.length ≤ sizeLine ∧ Q (.str (PyData.tuple [.str z, .dict []]).shown) H
theorem call_reprE (hgd : X.A.guards = some []) (hu : X.A.units + 70 < cLine) : CallR X (.builtin "repr") (rReprE X.K) := by
  intro pins s σ H xs us Q I r h
  rcases h with h | ⟨a, b, z, rfl, ha, hb, hl, q⟩
  · exact call_reprD hgd hu pins s σ H xs us Q I r h
  · obtain ⟨u, rfl, ru⟩ := vals1 r
    cases ru
    obtain ⟨its, rv, ⟨o, ho, hc, n, hd⟩, _⟩ := I.tuple ha
    obtain ⟨u1, u2, rfl, r1, r2⟩ := vals2 rv
    cases r2
    obtain ⟨t, rfl⟩ := r1
    obtain ⟨_, hsm, vs, kv, dd⟩ := dk_of I.hok hb
    have rb : ∃ as, Reads s.heap (.ref b) (.dict []) as ∧ sysModules ∉ as := by
      obtain ⟨ob, es, ep, hob, hex, hdb, _, pr, _⟩ := dd
      cases kv
      cases hes : es.toList with
      | cons e l => rw [hes] at pr; cases pr
      | nil =>
        have rd : Reads s.heap (.ref b) (.dict []) (b :: [] ++ []) := Reads.dict hob hex.1 hdb (by rw [hes]; exact .nil) (by rw [hes]; exact .nil)
        exact ⟨_, rd, by simpa using fun z => beq_eq_false_iff_ne.mp hsm z.symm⟩
    obtain ⟨as, rb, hns⟩ := rb
    have ra : Reads s.heap (.ref a) (.tuple [.str z, .dict []]) ([] ++ (as ++ [])) := Reads.tuple ho hc hd (.cons (.str z t) (.cons rb .nil))
    have hdep : (PyData.tuple [.str z, .dict []]).depth = 2 := by simp only [PyData.depth, PyData.depthAll, PyData.depthKv]; rfl
    exact repr_of_reads' ra (by simp only [PyData.showable, PyData.showableAll, PyData.showableKv]; rfl) (fun _ => by simpa using hns) hgd (by rw [hdep]; omega) (fun _ _ z => z) (fun h' u tk hk => ⟨.str _, H, I.kept (t' := tk) hk, ⟨_, rfl⟩, q⟩) hl
end
/-! ### a lambda within a comprehension -/
theorem lookup_rel {env : Env} {x : Str} : ∀ {names : List (Str × NameKind)}, (names.lookup x = some .cell ∨ names.lookup x = some .free) →
    (names.map fun (n, k) => if (k == NameKind.free && env.scope.kind == .function && env.kindOf n == some .cell) then (n, NameKind.cell) else (n, k)).lookup x = some .cell ∨
    (names.map fun (n, k) => if (k == NameKind.free && env.scope.kind == .function && env.kindOf n == some .cell) then (n, NameKind.cell) else (n, k)).lookup x = some .free
  | [], h => by rcases h with h | h <;> cases h
  | (n, k) :: r, h => by
    have ih := @lookup_rel env x r
    show List.lookup x ((if (k == NameKind.free && env.scope.kind == .function && env.kindOf n == some .cell) = true then (n, NameKind.cell) else (n, k)) :: _) = _ ∨ List.lookup x ((if (k == NameKind.free && env.scope.kind == .function && env.kindOf n == some .cell) = true then (n, NameKind.cell) else (n, k)) :: _) = _
    cases hx : x == n with
    | true =>
      simp only [List.lookup_cons, hx] at h
      by_cases hc : (k == NameKind.free && env.scope.kind == .function && env.kindOf n == some .cell) = true
      · rw [if_pos hc]
        simp only [List.lookup_cons, hx]
        exact .inl trivial
      · rw [if_neg hc]
        simp only [List.lookup_cons, hx]
        exact h
    | false =>
      simp only [List.lookup_cons, hx] at h
      by_cases hc : (k == NameKind.free && env.scope.kind == .function && env.kindOf n == some .cell) = true
      · rw [if_pos hc]
        simp only [List.lookup_cons, hx]
        exact ih h
      · rw [if_neg hc]
        simp only [List.lookup_cons, hx]
        exact ih h
theorem lamS_rel {bs scope : Scope} {env : Env} (h : LamX.lamSB bs scope = true) : LamX.LamS (relabel bs env) scope := by
  have L := LamX.lamS_by h
  exact ⟨L.kind, L.co, L.gen, L.own, fun y hy e => lookup_rel (L.free y hy e)⟩
end Nw

namespace Nw
open PySem PySem.Spec PyProof.Rows L2
/-! ### lambdas made in several defs: a list of tables -/
theorem tb_uniq {P : Addr} {u : Str} {q : Addr × Str} : ∀ {Tb : List (Addr × Str)}, (Tb.map Prod.fst).Nodup → (P, u) ∈ Tb → q ∈ Tb → q.1 = P → q.2 = u
  | [], _, h, _, _ => nomatch h
  | y :: l, nd, hm, hq, h1 => by
    obtain ⟨n1, n2⟩ := List.nodup_cons.mp (show (y.1 :: l.map Prod.fst).Nodup from nd)
    rcases List.mem_cons.mp hq with hq | hq
    · rcases List.mem_cons.mp hm with h | h
      · rw [hq, ← h]
      · refine absurd ?_ n1
        rw [← hq, h1]
        exact List.mem_map_of_mem (f := Prod.fst) h
    · rcases List.mem_cons.mp hm with h | h
      · refine absurd ?_ n1
        rw [← h]
        show P ∈ l.map Prod.fst
        rw [← h1]
        exact List.mem_map_of_mem (f := Prod.fst) hq
      · exact tb_uniq n2 h hq h1
theorem pe_told2 {X : Cx} {Tb : List (Addr × Str)} {TT : (XK → Hp → VK → Prop) → Hp → VK → Prop} {x a : Str} {g c P : Addr} {k : Nat} {st : Stmt} {Ng : List Str} {params : Arguments} {body : Expr} {scope : Scope} {t : XK → TE} {p lpos pos : Pos} {e : Addr × Str}
    (F : FnAt X.K x x st g) (S : FnScope Ng [a] (defScope st)) (hm : X.mg x = some (.ref g)) (hG : ∀ cdv, LamX.GivesTo X Ng x (defScope st) g cdv (defBody st) a (X.env.qual ++ "<lambda>") TT)
    (TB : LamX.TabB X.base X.mg c P) (hcode : X.env.code = .ref c) (hT : (P, X.env.qual ++ "<lambda>") = e) (hmT : e ∈ Tb) (nd : (Tb.map Prod.fst).Nodup) (hr : Room (k + 2) X.A) (L : LamX.LamS X.env.scope scope)
    (hbody : ∀ (A : Around) (outer : List Env) (s : Shared) (H : Hp) (E : XK) (f c' : Addr), Room k (A.deeper (LamX.lamEnv X scope s.heap.objs.size f c')) → PE (LamX.lamCx X A outer s H E scope f c') body (t E))
    (hdef : defaultsOf params X.env = ([], []) := by rfl)
    (hbind : ∀ (q : Str) (cl : List (Str × Addr)) (pm cv ctv : Value), bindArgs (PySem.W.kla_fn "<lambda>" q params body scope cl pm cv ctv) ⟨[], []⟩ = pure [] := by intro _ _ _ _ _; rfl)
    (hb : ∀ (kV doc pm : Value) (an : Option Addr) (cdv ct : Value) (us : List Value), us.length = 1 → bindArgs (PySem.W.fnOf x x (defArgs st) (defBody st) (defScope st) .none kV doc pm an cdv ct) ⟨us, []⟩ = pure ([a].zip us) := by intro _ _ _ _ _ _ us hl; match us, hl with | [_], _ => rfl)
    (hg : Gl X x := by rfl) (hNg : Ng[0]? = some a := by rfl) (hva : Vis (defScope st) a := by first | exact Or.inl rfl | exact Or.inr (Or.inl rfl)) (hdb : (x == ("__debug__" : Str)) = false := by decide) (hd : (a == ("__debug__" : Str)) = false := by decide) (hcd : (a == ("__classdict__" : Str)) = false := by decide) :
    PE X (.Call (.Name x p) [.Lambda params body scope lpos] [] pos) (LamX.tLam Tb TT t) := by
  obtain ⟨fd, F⟩ := F
  have B := F.bindsN (ps := [a]) hb
  obtain ⟨oc, od, dV, kV, doc, pm, an, cdv, ct, osl, e', lk, hcd', _⟩ := F.ex
  subst e'
  refine LamX.pe_lamcall hg hm F.kp lk hcd' B S hNg hva (hG cdv) TB hcode (by rw [hT]; exact hmT) (fun q hq h1 => ?_) hr L hdef hbind hbody hdb hd hcd
  exact tb_uniq nd (by rw [hT]; exact hmT) hq h1
end Nw

namespace Nw
open PySem PySem.Spec PyProof.Rows L2
/-! ### a dict is no text -/
theorem dict_ne_str (l : Addr) (es : Array DictEntry) (n : Nat) (dd : Option Addr) (sl : Array (Option Value)) (b : Str) (u : Tok) :
    Meets (Builtin.«dict.__ne__» ⟨[.ref l, .str b u], []⟩) (fun _ R s => s.heap.get? l = some { cls := .type "dict", dict := dd, data := .dict es n, slots := sl } ∧ R (.ok (.ret .notImplemented)) s) :=
  .of_wp fun prog w A R s h => by obtain ⟨hp, g, d, tk, os⟩ := s; obtain ⟨hl, h⟩ := h; have f1 := F.sub_str_dict; wp_walk using wpAny_loadPart' hl; exact ⟨_, rfl, h⟩
theorem str_ne_dict (b : Str) (u : Tok) (l : Addr) (es : Array DictEntry) (n : Nat) (dd : Option Addr) (sl : Array (Option Value)) :
    Meets (Builtin.«str.__ne__» ⟨[.str b u, .ref l], []⟩) (fun _ R s => s.heap.get? l = some { cls := .type "dict", dict := dd, data := .dict es n, slots := sl } ∧ R (.ok (.ret .notImplemented)) s) :=
  .of_wp fun prog w A R s h => by obtain ⟨hp, g, d, tk, os⟩ := s; obtain ⟨hl, h⟩ := h; wp_walk using wpAny_loadPart' hl, wpAny_load hl; exact ⟨_, rfl, h⟩
def rNeS : R2 := fun x y H Q => rNe x y H Q ∨ ∃ a kvs z, x = .ref a ∧ y = .str z ∧ H a = some (.dK kvs) ∧ Q (.bl true) H
theorem op_neS {X : Cx} (hu : X.A.units + 64 < cLine) : OpR X (compareOp .NotEq) rNeS := by
  intro pins s σ H x y v u Q I rx ry h
  rcases h with h | ⟨a, kvs, z, rfl, rfl, ha, q⟩
  · exact op_ne pins s σ H x y v u Q I rx ry h
  · obtain rfl : v = Value.ref a := rx
    obtain ⟨t, rfl⟩ := ry
    obtain ⟨_, hsm, vs, kv, dd⟩ := dk_of I.hok ha
    obtain ⟨⟨cls, dc, data, sl⟩, es, ep, ho, hex, hd, _⟩ := dd
    have hc := hex.1
    simp only at hc hd
    subst hc hd
    exact SeqAt.rc_ne_decline_or (k := false) ⟨_, ho, rfl⟩ (typeIs_str s z t) (by decide) F.sub_str_dict F.slot_dict_ne F.slot_str_ne_refl
      (fun _ hq => call_meets F.slot_dict_ne ⟨_, ho, rfl⟩ F.entry_dict_ne (F.args_dict_ne_2 _ _) (dict_ne_str a es ep dc sl z t) ⟨ho, hq⟩)
      (fun _ hq => call_meets F.slot_str_ne_refl (typeIs_str s z t) F.entry_str_ne (F.args_str_ne_2 _ _) (str_ne_dict z t a es ep dc sl) ⟨ho, hq⟩)
      (fun _ hq => wpAny_of_eq (rfl : isSame (.ref a) (.str z t) = pure false) hq) (.inr (Nat.lt_of_le_of_lt (Nat.le_add_right _ _) hu)) (fin_bl I q rfl)
end Nw

namespace Nw
open PySem PySem.Spec PyProof.Rows L2
/-! ### e[b] by an own __getitem__ -/
def rGetO (C : Addr) (sp : Sp) (E : XK) : R2 := fun x y H Q => ∃ a dx fs, x = .ref a ∧ H a = some (.ins C dx fs) ∧ sp [.ref a, y] H Q E
theorem pe_getO {X : Cx} {k : Nat} {C f : Addr} {CX : CXT} {E : XK} {ps : List Str} {sp : Sp} {e b : Expr} {te tb : TE} {pos : Pos} (M : Meth X.K C "__getitem__" f) (G : Ok X.prog X.w X.K X.mg X.base CX k f ps sp) (hr : Room (k + 1) X.A) (hx : Passes CX X E)
    (he : PE X e te) (hb : PE X b tb) (hsl : ∀ o i, subscripted b true o i = runValue (.builtin "lifetime.subscript" ⟨[o, i], []⟩) := by intro _ _; with_unfolding_all rfl) : PE X (.Subscript e b pos) (tOp (rGetO C sp E) te tb) := by
  obtain ⟨fd, F, bd, _, oc, od, osl, lk⟩ := G.ok
  refine ⟨fun pins s σ H Q I h => ?_⟩
  refine Subscript_ (binT he hb I h fun v u s2 x y H2 I2 rx ry q => ?_)
  obtain ⟨a, dx, fs, rfl, ha, q⟩ := q
  obtain rfl : v = Value.ref a := rx
  obtain ⟨mA, J, _⟩ := ins_get I2.hok ha
  obtain ⟨od, J, _⟩ := J.look
  obtain ⟨m, hF⟩ := I2.fr
  have r2 : Vals [V.ref a, y] [Value.ref a, u] := .cons rfl (.cons ry .nil)
  have e0 : Env0 X.prog X.w X.K X.mg X.base X.A.in1 X.stack s2 H2 := I2.env0.in1
  have hl : (([.ref a, u] : List Value) ++ []).length = ps.length := by
    have := F.len _ _ _ _ q
    simpa using this
  refine PySem.W.sub_K hF I2.ok.mod.kin J M.at_ (by unfold PySem.W.fnIn; rw [lk]) M.fn ?_ (hsl _ _)
  refine wpAny_call (codeAny_mono (F.run X.A.in1 X.stack s2 H2 ⟨[.ref a, u], []⟩ [.ref a, u] [.ref a, y] Q E hr.in1 e0 (by
    have := bd s2 [.ref a, u] I2.kIn hl
    simpa using this) r2 q) fun r s' hq => ?_)
  cases r with
  | error e => exact hx pins σ H2 s2 e s' I2 hq
  | ok fl =>
    cases fl with
    | ret w => exact I2.after hq
    | next => exact False.elim hq
    | brk => exact False.elim hq
    | cont => exact False.elim hq
end Nw

/-! N31: list(range(a, b)) whatever the bounds are -/
namespace PySem
open Sem (wp)
section
variable {prog : Program} {w : World} {A : Around} {E : Value → Shared → Prop} {s : Shared}

theorem long_extend {R : Result → Shared → Prop} {r : Addr} {a b c : Int} {t u v : Tok} {n : Nat} (hh : A.handled = none) (hr : IsRange s.heap r a b c t u v) (hbig : Builtin.Range.small a b c = false)
    (hn : Builtin.Range.rangeSize a b c = n) (hlen : n ≤ 2 ^ 24) (S : Addr) (res : Value) (c₀ : Nat) (hS : s.heap.get? S = some { cls := .type "list", data := .seq #[] c₀ })
    (hR : ∀ h' tk acc' c', (∀ b o, b ≠ S → s.heap.get? b = some o → h'.get? b = some o) → h'.get? S = some { cls := .type "list", dict := none, data := .seq acc' c', slots := #[] } →
      ItemsOf (fun i v => ∃ t, v = .int (a + i * c) t) acc' n → R (.ok (.ret res)) { s with heap := h', toks := tk }) :
    wpAny (model prog w) A.in1 (Builtin.List.listExtendWith (.ref S) (.ref r) res)
      (fun fin s' => match fin with | .done f => R (.ok f) s' | .again c' => c'.quiet = true ∧ codeAny (model prog w) A c' R s') (fun e s' => R (.error e) s') s := by
  have hSr : S ≠ r := fun e => by rw [e, hr] at hS; simp at hS
  have hSlt : S < s.heap.objs.size := Heap.lt_size hS
  have hSI : S ≠ s.heap.objs.size := Nat.ne_of_lt hSlt
  have hSf : S ∉ [s.heap.objs.size] := fun hm => hSI (List.mem_singleton.mp hm)
  have W := (Walks.longrange (prog := prog) (w := w) (A := A.in1) hh s.heap.objs.size a c n).toS
  have key : ∀ (h : Heap) (c₁ tk : Nat), IsLongIter h s.heap.objs.size (a + ((0 : Nat) : Int) * c) ((n : Int) - ((0 : Nat) : Int)) c → (∀ b o, b ≠ S → s.heap.get? b = some o → h.get? b = some o) →
      h.get? S = some { cls := .type "list", data := .seq #[] c₁ } → codeAny (model prog w) A (.builtin "list.extend.loop" ⟨[.ref S, .ref s.heap.objs.size, res], []⟩) R { s with heap := h, toks := tk } := by
    intro h c₁ tk hit hk hS₁
    refine codeAny_extend_loopS W (by rw [sizeLine_eq]; omega) S hSf res n 0 _ #[] c₁ rfl (Nat.zero_le _) hit hS₁ (ItemsOf.nil _) fun s' acc' c' hm hS' hacc => ?_
    rw [Moved.eq_with hm]
    refine hR s'.heap s'.toks acc' c' (fun b o hb e => hm.heap b o (fun hmem => ?_) (hk b o hb e)) hS' hacc
    rcases List.mem_cons.mp hmem with e' | hmem
    · exact hb e'
    · exact absurd (Heap.lt_size e) (by rw [List.mem_singleton.mp hmem]; exact Nat.lt_irrefl _)
  unfold Builtin.List.listExtendWith
  refine wpAny_bind (wpAny_typeOf (T := "range") ⟨_, hr, rfl⟩ ?_)
  have h1 : Builtin.List.listSameRef (.ref S) (.ref r) = false := by simp [Builtin.List.listSameRef, hSr]
  have h2 : (Value.type "range" == Value.type "list") = false := by decide
  have h3 : (Value.type "range" == Value.type "tuple") = false := by decide
  simp only [h1, h2, h3, Bool.or_false, Bool.false_eq_true, if_false]
  refine wpAny_bind (wpAny_pyIter_longrange hr hbig ?_)
  refine wpAny_bind (wpAny_holding (wpAny_hint_range (n := n) (Heap.get?_push_of_some _ hr) hn hlen ?_))
  have hit₁ : IsLongIter (s.heap.push { cls := .type "longrange_iterator", data := .fields #[rawInt a, rawInt (Builtin.Range.rangeSize a b c), rawInt c] }) s.heap.objs.size (a + ((0 : Nat) : Int) * c) ((n : Int) - ((0 : Nat) : Int)) c := by
    show IsLongIter _ _ _ _ _; rw [hn]; simpa using Heap.get?_push_size _ rfl
  have hS₁ := Heap.get?_push_of_some { cls := .type "longrange_iterator", data := .fields #[rawInt a, rawInt (Builtin.Range.rangeSize a b c), rawInt c] } hS
  refine wpAny_ite_split (fun _ => ?_) (fun _ => wpAny_pure ⟨plainId_quiet F.plain_extend_loop _, key _ c₀ _ hit₁ (fun b o _ e => Heap.get?_push_of_some _ e) hS₁⟩)
  refine wpAny_bind (wpAny_rule ?_)
  refine wpAny_bind ?_
  show wpAny _ _ (updateSeq S (·.push .none) >>= fun _ => updateSeq S (·.pop)) _ _ _
  refine wpAny_bind (wpAny_updateSeq hS₁ rfl ?_)
  have hS₂ := Heap.get?_update_self (Obj.mapSeq (·.push Value.none)) hS₁ rfl
  refine wpAny_updateSeq (hz := by seq_fits) hS₂ rfl ?_
  have hS₃ := Heap.get?_update_self (Obj.mapSeq (·.pop)) hS₂ rfl
  refine wpAny_pure ⟨plainId_quiet F.plain_extend_loop _, key _ _ _ ?_ (fun b o hb e => ?_) hS₃⟩
  · exact (Heap.get?_update_other _ _ hSI).trans ((Heap.get?_update_other _ _ hSI).trans hit₁)
  · exact (Heap.get?_update_other _ _ (Ne.symm hb)).trans ((Heap.get?_update_other _ _ (Ne.symm hb)).trans (Heap.get?_push_of_some _ e))

theorem long_init {R : Result → Shared → Prop} {r : Addr} {a b c : Int} {t u v : Tok} {n : Nat} (hh : A.handled = none) (hr : IsRange s.heap r a b c t u v) (hbig : Builtin.Range.small a b c = false)
    (hn : Builtin.Range.rangeSize a b c = n) (hlen : n ≤ 2 ^ 24) (S : Addr) (hS : s.heap.get? S = some { cls := .type "list", data := .seq #[] })
    (hR : ∀ h' tk acc' c', (∀ b o, b ≠ S → s.heap.get? b = some o → h'.get? b = some o) → h'.get? S = some { cls := .type "list", dict := none, data := .seq acc' c', slots := #[] } →
      ItemsOf (fun i v => ∃ t, v = .int (a + i * c) t) acc' n → R (.ok (.ret .none)) { s with heap := h', toks := tk }) :
    wpAny (model prog w) A.in1 (Builtin.«list.__init__» ⟨[.ref S, .ref r], []⟩)
      (fun fin s' => match fin with | .done f => R (.ok f) s' | .again c' => c'.quiet = true ∧ codeAny (model prog w) A c' R s') (fun e s' => R (.error e) s') s := by
  have hSr : S ≠ r := fun e => by rw [e, hr] at hS; simp at hS
  show wpAny _ _ (do let old ← Builtin.List.listItems (.ref S); Builtin.List.listUpdate (.ref S) (fun _ => #[]); letGo old.toList.reverse; Builtin.List.listExtendWith (.ref S) (.ref r) .none) _ _ s
  refine wpAny_bind ?_
  unfold Builtin.List.listItems
  refine wpAny_bind (wpAny_seqItems hS rfl (wpAny_pure ?_))
  show wpAny _ _ (updateSeq S (fun _ => #[]) >>= fun _ => letGo (#[] : Array Value).toList.reverse >>= fun _ => Builtin.List.listExtendWith (.ref S) (.ref r) .none) _ _ s
  refine wpAny_bind (wpAny_updateSeq hS rfl ?_)
  have hS₂ := Heap.get?_update_self (Obj.mapSeq (fun _ => (#[] : Array Value))) hS rfl
  have oth : ∀ b o, b ≠ S → s.heap.get? b = some o → (s.heap.update S (Obj.mapSeq (fun _ => (#[] : Array Value)))).get? b = some o :=
    fun b o hb e => (Heap.get?_update_other _ _ (Ne.symm hb)).trans e
  refine wpAny_bind (wpAny_letGo ?_)
  refine long_extend hh (oth r _ (Ne.symm hSr) hr) hbig hn hlen S .none _ hS₂ fun h' tk acc' c' hk hS' hacc => ?_
  exact hR h' tk acc' c' (fun b o hb e => hk b o hb (oth b o hb e)) hS' hacc

theorem call_list_long {Q : Value → Shared → Prop} {r : Addr} {a b c : Int} {t u v : Tok} {n : Nat} (hh : A.handled = none) (hr : IsRange s.heap r a b c t u v) (hbig : Builtin.Range.small a b c = false)
    (hn : Builtin.Range.rangeSize a b c = n) (hlen : n ≤ 2 ^ 24)
    (hQ : ∀ h' tk acc' c', (∀ b o, s.heap.get? b = some o → h'.get? b = some o) →
      h'.get? s.heap.objs.size = some { cls := .type "list", dict := none, data := .seq acc' c', slots := #[] } → ItemsOf (fun i v => ∃ t, v = .int (a + i * c) t) acc' n → Q (.ref s.heap.objs.size) { s with heap := h', toks := tk }) :
    wpAny (model prog w) A (call (.type "list") [.ref r]) Q E s := by
  refine callType_codes (Q₁ := fun obj s₁ => obj = .ref s.heap.objs.size ∧ s₁ = { s with heap := s.heap.push { cls := .type "list", data := .seq #[] } }) F.called_list (F.typeCall_list_1 _) F.entry_list_init
    (code_list_new _ ⟨rfl, rfl⟩) fun obj s₁ h₁ => ?_
  obtain ⟨rfl, rfl⟩ := h₁
  have hS : (s.heap.push { cls := .type "list", data := .seq #[] }).get? s.heap.objs.size = some { cls := .type "list", data := .seq #[] } := Heap.get?_push_size _ rfl
  refine ⟨⟨_, hS, rfl⟩, F.args_list_init_2 _ _, long_init (A := A.in1) hh (Heap.get?_push_of_some _ hr) hbig hn hlen _ hS fun h' tk acc' c' hk hS' hacc => ?_⟩
  exact ⟨rfl, hQ h' tk acc' c' (fun b o e => hk b o (Nat.ne_of_lt (Heap.lt_size e)) (Heap.get?_push_of_some _ e)) hS' hacc⟩

theorem call_list_any {Q : Value → Shared → Prop} {r : Addr} {a b c : Int} {t u v : Tok} {n : Nat} (hh : A.handled = none) (hr : IsRange s.heap r a b c t u v)
    (hn : Builtin.Range.rangeSize a b c = n) (hlen : n ≤ 2 ^ 24)
    (hQ : ∀ h' tk acc' c', (∀ b o, s.heap.get? b = some o → h'.get? b = some o) →
      h'.get? s.heap.objs.size = some { cls := .type "list", dict := none, data := .seq acc' c', slots := #[] } → ItemsOf (fun i v => ∃ t, v = .int (a + i * c) t) acc' n → Q (.ref s.heap.objs.size) { s with heap := h', toks := tk }) :
    wpAny (model prog w) A (call (.type "list") [.ref r]) Q E s := by
  by_cases h : Builtin.Range.small a b c = true
  · exact call_list_range hh hr h hn hlen hQ
  · exact call_list_long hh hr (by simpa using h) hn hlen hQ
end
end PySem
namespace L2
open PySem PySem.Spec PyProof.Rows
section
variable {X : Cx} {e : Expr} {te : St → Hp → (Int → Int → Hp → Prop) → Prop}
/-- list(range(a, b)), whatever a and b are: not too long -/
def tLstRgB (te : St → Hp → (Int → Int → Hp → Prop) → Prop) : TE := fun σ H Q => te σ H fun a b H1 => (b - a).toNat ≤ 2 ^ 24 ∧ ∀ q, H1 q = none → Q (.ref q) (upd H1 q (.lst (rgV a b)))
theorem pe_listRgB {p pos : Pos} (hc : X.calm = true) (hg : Gl X "list") (hm : X.mg "list" = none) (he : PRg X e te) (na : starEach [e] X.env = (false, eval e X.env) :: starEach [] X.env := by rfl) : PE X (.Call (.Name "list" p) [e] [] pos) (tLstRgB te) := by
  refine ⟨fun pins s σ H Q I h => ?_⟩
  refine Call_ (ld_blt I hg hm boot_list (PyProof.Rows.callWith_type1 (args_cons (thn (he pins s σ H _ I h) fun x s1 ⟨r, a, b, t, u, v, H1, ex, hr, I1, b5, q⟩ => args_nil ?_) na) na))
  subst ex
  refine call_list_any (n := (b - a).toNat) (I1.ok.hd hc) hr (rangeSize_nat a b) b5 fun h' tk acc c' hk e' hi => ?_
  refine ⟨.ref s1.heap.objs.size, upd H1 s1.heap.objs.size (.lst (rgV a b)), I1.laid hk (Nat.le_refl _) (show ObjOk X.prog X.w _ _ _ (.lst (rgV a b)) from ⟨?_, acc.toList, c', vals_rg hi, ?_⟩), rfl, q _ (I1.hok.fresh (Nat.le_refl _))⟩
  · rw [rgV_length, sizeLine_eq]; omega
  · rw [Array.toArray_toList]; exact e'
end
end L2

/-! N32: sep.join(a dict of texts) -/
namespace PySem
open Sem (wp)
open Builtin Builtin.Str Builtin.Int
theorem nolen_kit : typeLookup (.type "dict_keyiterator") "__len__" = pure none := by rw [typeLookup_type, builtinLookup_eq_fast]; kernel_rfl
section
variable {prog : Program} {w : World} {A : Around} {E : Value → Shared → Prop} {s : Shared} {I : Addr} {fp wr : List Addr} {G : Array GenState → Array GenState → Prop} {n : Nat} {P : Nat → Value → Prop} {St : Nat → Shared → Prop}
theorem collect_kit {Q : List Value → Shared → Prop}
    (W : WalksS prog w A.in1 I fp wr G n P St) (hT : ∀ i s, St i s → s.TypeIs (.ref I) "dict_keyiterator") (hst : St 0 s) (hfp : ∀ b ∈ fp, b < s.heap.objs.size) (hI : I ∈ fp)
    (hQ : ∀ s' acc, Moved wr G s s' → ItemsOf P acc n → Q acc.toList s') (hn : n ≤ sizeLine) : wpAny (model prog w) A (collect (.ref I)) Q E s := by
  have hSf : s.heap.objs.size ∉ fp := fun hm => Nat.lt_irrefl _ (hfp _ hm)
  have hSI : s.heap.objs.size ≠ I := fun e => hSf (e ▸ hI)
  unfold collect
  refine wpAny_bind (wpAny_runValue (codeAny_builtin F.entry_proto_collect ?_))
  rw [Around.under_plainId F.plain_proto_collect _]
  show wpAny _ A.in1 (newList [] >>= fun l => again (.builtin "list.__iadd__" ⟨[l, .ref I], []⟩)) _ _ s
  refine wpAny_bind (wpAny_newObj_type ?_)
  refine wpAny_pure ⟨plainId_quiet F.plain_list_iadd _, codeAny_builtin F.entry_list_iadd ?_⟩
  rw [Around.under_plainId F.plain_list_iadd _]
  have hst₁ := W.frame 0 s (s.heap.push { cls := .type "list", data := .seq ([] : List Value).toArray }) s.toks hst (Nat.le_refl _) fun b _ o e => Heap.get?_push_of_some _ e
  have hS₁ : (s.heap.push { cls := .type "list", data := .seq ([] : List Value).toArray }).get? s.heap.objs.size = some { cls := .type "list", data := .seq ([] : List Value).toArray } := Heap.get?_push_size _ rfl
  have h1 : Builtin.List.listSameRef (.ref s.heap.objs.size) (.ref I) = false := by simp [Builtin.List.listSameRef, hSI]
  show wpAny _ A.in1 (Builtin.List.listExtendWith (.ref s.heap.objs.size) (.ref I) (.ref s.heap.objs.size)) _ _ _
  unfold Builtin.List.listExtendWith
  refine wpAny_bind (wpAny_typeOf (hT 0 _ hst₁) ?_)
  rw [if_neg (by rw [h1]; decide)]
  refine wpAny_bind (W.self 0 _ _ _ hst₁ ?_)
  refine wpAny_bind (wpAny_holding ?_)
  unfold Builtin.List.listLengthHint
  refine wpAny_bind (wpAny_specialOf (hT 0 _ hst₁) nolen_kit ?_)
  show wpAny _ A.in1 (specialOf (Value.ref I) (Str.ofString "__length_hint__") >>= _) _ _ _
  refine wpAny_bind (wpAny_specialOf (hT 0 _ hst₁) F.slot_dict_keyiterator_length_hint.lookup ?_)
  (generalize hid : ("dict_keyiterator.__length_hint__" : String) = id0; (fail_if_success (clear hid id0)); wp_delta; rw [show splitId id0 = some ("dict_keyiterator", "__length_hint__") from by subst hid; decide +kernel]; subst hid)
  refine wpAny_bind (wpAny_isInstance (b := true) (hT 0 _ hst₁) (by rw [isSubtype_type]; kernel_rfl) ?_)
  refine wpAny_pure ?_
  rw [if_neg (by decide)]
  refine wpAny_pure ⟨plainId_quiet F.plain_extend_loop _, codeAny_extend_loopS W hn _ hSf _ n 0 _ _ _ rfl (Nat.zero_le _) hst₁ hS₁ (ItemsOf.nil P) fun s' acc' c' hm hS' hacc => ?_⟩
  show wpAny _ A (load s.heap.objs.size >>= _) _ _ s'
  refine wpAny_bind (wpAny_load hS' ?_)
  exact wpAny_pure (hQ s' acc' (Moved.drop_new (o := { cls := .type "list", data := .seq ([] : List Value).toArray }) (tk := s.toks) hm (Nat.le_refl _)) hacc)
end
section
variable {prog : Program} {w : World} {A : Around} {E : Value → Shared → Prop} {s : Shared} {K : Type} [DecidableEq K] {knd : KeyKind prog w K}
theorem call_joinD {x : Str} {t : Tok} {d : Addr} {kvs : List (K × Value)} {ep : Nat} {ys : List Str} {Q : Value → Shared → Prop} (hh : A.handled = none) (lo : (d == sysModules) = false) (hm : s.heap.DictAt knd d kvs ep)
    (hP : ∀ acc : Array Value, ItemsOf (fun i v => ∃ k x, kvs[i]? = some (k, x) ∧ knd.is k v = true) acc kvs.length → PyProof.Rows.StrsAre acc.toList ys) (hok : (ys.map (·.length)).sum + ys.length * x.length ≤ 16777216)
    (hq : ∀ h', (∀ b o, s.heap.get? b = some o → h'.get? b = some o) → ∀ t' k, Q (.str (Txt.join x ys) t') { s with heap := h', toks := k }) (hn : kvs.length ≤ sizeLine) :
    wpAny (model prog w) A (call (.builtin "str.join") [.str x t, .ref d]) Q E s := by
  have hT : s.TypeIs (.ref d) "dict" := hm.dictOf.typeIs
  refine wpAny_call (codeAny_call_builtin F.slot_str_join.plain F.entry_str_join (F.slot_str_join.check _ _ _ _ _ _ _ _ (typeIs_str _ _ _) (F.args_str_join_2 _ _) ?_))
  rw [join_tree_other]
  refine wpAny_bind (wpAny_typeOf hT ?_)
  show wpAny _ A.in1 ((pyIter (.ref d)).tryCatch _ >>= fun it => collect it >>= fun items => joinTail x items) _ _ s
  refine wpAny_bind (wpAny_tryCatch (wpAny_pyIter_dict lo hm ?_))
  have hne : d ≠ s.heap.objs.size := Nat.ne_of_lt hm.lt_size
  have hh1 : A.in1.in1.handled = none := hh
  refine wpAny_bind (collect_kit (I := s.heap.objs.size) (n := kvs.length) (Walks.dictKeys (A := A.in1.in1) hh1 s.heap.objs.size d hne kvs ep).toS (fun i s' st => st.1.typeIs) ⟨⟨_, Heap.get?_push_size _ rfl, rfl, rfl⟩, hm.push _⟩ (fun b hb => ?_) (by simp) (fun s' acc hmv hacc => ?_) hn)
  · simp only [List.mem_cons, List.not_mem_nil, or_false] at hb
    rcases hb with rfl | rfl
    · simp [Heap.push]
    · exact Nat.lt_of_lt_of_le hm.lt_size (by simp [Heap.push])
  obtain ⟨l, hl, ht⟩ := PyProof.Rows.strsAre_values (hP acc hacc)
  subst ht
  rw [hl]
  have hok' := PyProof.Rows.joinOk_of hok
  unfold JoinOk at hok'
  rw [Bool.not_eq_true'] at hok'
  have g : Gives (joinTail x (strValues l)) (joinMade x l) := by
    have g0 := gives_joinTail x l hok'
    cases l with
    | nil => exact g0
    | cons p r => cases r with
      | nil => exact g0
      | cons q r' => exact g0
  refine g prog w A (wants Q E) s' (post_join l ⟨joinFit_length hok', fun t' k => ?_⟩)
  rw [Moved.eq_with hmv]
  exact hq s'.heap (fun b o e => hmv.heap b o (fun hmem => absurd (Heap.lt_size e) (by rw [List.mem_singleton.mp hmem]; exact Nat.lt_irrefl _)) (Heap.get?_push_of_some _ e)) t' k
end
end PySem
namespace L2
open PySem PySem.Spec PyProof.Rows
theorem strs_of_get : ∀ (us : List Value) (ys : List Str), us.length = ys.length → (∀ (i : Nat) (u : Value) (y : Str), us[i]? = some u → ys[i]? = some y → ∃ t, u = .str y t) → StrsAre us ys
  | [], [], _, _ => .nil
  | u :: us, y :: ys, hl, h => by
    obtain ⟨t, rfl⟩ := h 0 u y rfl rfl
    exact .cons y t (strs_of_get us ys (Nat.succ.inj hl) fun i u y h1 h2 => h (i + 1) u y h1 h2)
/-- sep.join(d): the keys of a dict, all of them texts -/
def rJoinD (K : PySem.W.Frag) : V → List V → Hp → VK → Prop := fun x xs H Q => ∃ a p kvs, ∃ ys : List Str, x = .str a ∧ xs = [.ref p] ∧ H p = some (.dK kvs) ∧ kvs.map Prod.fst = ys.map (Sum.inr : Str → Key) ∧
    (ys.map (·.length)).sum + ys.length * a.length ≤ 16777216 ∧ Q (.str (Txt.join a ys)) H
section
variable {X : Cx}
theorem kv_fst {kvs : List (Key × V)} {vs : List (Key × Value)} (h : KV kvs vs) : vs.map Prod.fst = kvs.map Prod.fst := by
  unfold KV at h
  induction h with
  | nil => rfl
  | cons h _ ih => rw [List.map_cons, List.map_cons, ih, h.1]
theorem mt_joinD (hc : X.calm = true) : MtR X "str.join" (rJoinD X.K) := by
  intro pins s σ H x xs v us Q I rx rs h
  obtain ⟨a, p, kvs, ys, rfl, rfl, hp, hk, hz, h⟩ := h
  obtain ⟨t, rfl⟩ := rx
  cases rs with
  | cons r1 rs =>
    cases rs
    cases r1
    obtain ⟨hl, lo, vs, rel, dd⟩ := dk_of I.hok hp
    obtain ⟨o, es, ep, dd⟩ := dd
    have hm : s.heap.DictAt (mixKind X.prog X.w) p vs ep := ⟨o, es, dd⟩
    have hf : vs.map Prod.fst = ys.map (Sum.inr : Str → Key) := (kv_fst rel).trans hk
    have hlen : vs.length = ys.length := by have := congrArg List.length hf; simpa using this
    have hlk : kvs.length = ys.length := by have := congrArg List.length hk; simpa using this
    refine call_joinD (ys := ys) (I.ok.hd hc) lo hm (fun acc hacc => ?_) hz (fun h' hk' t' k => ⟨.str _, H, I.kept (t' := k) hk', ⟨t', rfl⟩, h⟩) (by omega)
    refine strs_of_get _ _ (by rw [Array.length_toList]; exact hacc.1.trans hlen) fun i u y h1 h2 => ?_
    rw [Array.getElem?_toList] at h1
    obtain ⟨k, x, e1, e2⟩ := hacc.2 i u h1
    have e3 : (vs.map Prod.fst)[i]? = some k := by rw [List.getElem?_map, e1]; rfl
    rw [hf, List.getElem?_map, h2] at e3
    cases e3
    rcases keyIs_shape (k := Sum.inr y) (v := u) e2 with ⟨_, _, z, _⟩ | ⟨_, _, z, rfl⟩
    · cases z
    · cases z
      exact ⟨_, rfl⟩
theorem pe_joinD {o e : Expr} {to te : TE} {apos pos : Pos} (hc : X.calm = true) (ho : PE X o to) (he : PE X e te) (hs : starEach [e] X.env = [(false, eval e X.env)] := by rfl) (hbase : attributeBase o "join" X.env (eval o X.env) = eval o X.env := by rfl) (hline : (apos.endLine == pos.line) = true := by rfl) :
    PE X (.Call (.Attribute o "join" apos) [e] [] pos) (tM1 (rJoinD X.K) to te) :=
  pe_m1 F.slot_str_join F.type_str_join (mt_joinD hc) ho he hs hbase hline
end
end L2
namespace Nw
open PySem PySem.Spec PyProof.Rows L2
theorem call_list_ofK {X : Cx} {K : PySem.W.Frag} (h : X.K = K) : CallR X (.type "list") (fun xs H Q => ∃ p ys, xs = [.ref p] ∧ (SqL K H p ys ∨ SqT K H p ys) ∧ ∀ l, H l = none → Q (.ref l) (upd H l (.lst ys))) := h ▸ call_list_of
theorem op_eqNilK {X : Cx} {K : PySem.W.Frag} (h : X.K = K) (hu : X.A.units + 64 < cLine) : OpR X (compareOp .Eq) (rNilE K) := h ▸ op_eqNil hu
theorem op_neNilK {X : Cx} {K : PySem.W.Frag} (h : X.K = K) (hu : X.A.units + 64 < cLine) : OpR X (compareOp .NotEq) (rNilN K) := h ▸ op_neNil hu
end Nw

namespace Nw
open PySem PySem.Spec PyProof.Rows L2
/-! ### dict comprehensions whose keys are tuples -/
/-- what a comprehension stores, keys of any form -/
theorem put_dict {X : Cx} {pins : List (Addr × Obj)} {σ : L2.St} {H H' : Hp} {s : Shared} {E : Value → Shared → Prop} {D : Addr} {y v : V} {u r : Value} {Q : Unit → Shared → Prop} (hu : X.A.units < cLine) (I : Inv X pins σ H s) (g : DPut H D y v H')
    (ry : RelV y u) (rv : RelV v r) (h : ∀ s', Inv X pins σ H' s' → Q () s') : wpAny (model X.prog X.w) X.A (dictSet D u r) Q E s := by
  rcases g with ⟨kvs, k, e, ey, l, eH⟩ | ⟨kvs, k, b, e, ey, eb, l, eH⟩
  · subst ey eH
    exact d_dictSet I e l ry rv h
  · subst ey eH
    cases (show u = Value.ref b from ry)
    obtain ⟨z, hd, xs, rel, dd⟩ := dt_of I.hok e
    have hz : xs.length ≤ sizeLine := by rw [← PySem.Paired.length rel]; exact z
    have hl : (putK kvs k v).length ≤ sizeLine := by have := length_putK kvs k v; omega
    refine wpAny_dictSet_heap (hsz := hz) (show (tupleKind (mixKind X.prog X.w)).room X.A from hu) (key_of I.hok eb) dd fun h' dd' hs => h _ ?_
    obtain ⟨q, es, ep, hq, h2, h3, h4, _, h5⟩ := dd'
    refine d_write I (by rw [e]; exact True.intro) hs ⟨q, hq⟩ ⟨hl, hd, _, (rel.put k eb rv).keeps fun c ys ec => ?_, q, es, ep, hq, h2, h3, h4, h5⟩
    rw [upd_ne (ne_of ec e (fun z => nomatch z))]
    exact ec
/-- {k: v for target in iter if ..}, keys tuples -/
def tDcT (wi : TI) (g : TG) (tt : TT) (tk tv : TE) (vs : List Nat) : TE := fun σ H Q => wi σ H fun J H1 => ∀ D, H1 D = none → ∃ W : Nat → Nat → Hp → Prop, (∃ m, W 0 m (upd H1 D (.dT []))) ∧ ∀ i m H, W i m H →
  (J.stop i H ∧ Q (.ref D) H) ∨ (J.go i H ∧ ∃ Nx : Hp → Prop, (∀ H', Nx H' → ∃ m', m' < m ∧ W (i + 1) m' H') ∧ ∀ x H', J.yld i H x H' → g x (wipe σ vs) H' fun σ2 H2 => wipe σ2 vs = wipe σ vs ∧ tt σ2 H2 fun b H3 =>
    if b = true then tk σ2 H3 fun y H4 => tv σ2 H4 fun z H5 => ∃ H6, DPut H5 D y z H6 ∧ Nx H6 else Nx H3)
theorem dcT_core {X : Cx} {pins : List (Addr × Obj)} {s : Shared} {σ : L2.St} {H : Hp} {Q : VK} {kx vx tg iter : Expr} {ifs : List Expr} {scope : Scope} {own : List (Str × Nat)} {pos pos' : Pos} {wi : TI} {g : TG} {tt : TT} {tk tv : TE} {use : Option (Value → Sem Unit)} {Qf : Value → Shared → Prop} (I : Inv X pins σ H s)
    (hc : X.calm = true) (hN : X.N.Nodup) (hu : X.A.units < cLine) (hi : PI X tg iter wi) (ok : BlkOk X.N X.env.scope scope own)
    (hg : ∀ (s : Shared) (H : Hp) (C : Addr) (cl : List (Str × Addr)) (fp : List Addr), PG (X.blk s H scope (compEnvC scope cl C X.env) fp) tg g) (ht : ∀ (s : Shared) (H : Hp) (C : Addr) (cl : List (Str × Addr)) (fp : List Addr), PTs (X.blk s H scope (compEnvC scope cl C X.env) fp) ifs tt)
    (hk : ∀ (s : Shared) (H : Hp) (C : Addr) (cl : List (Str × Addr)) (fp : List Addr), PE (X.blk s H scope (compEnvC scope cl C X.env) fp) kx tk)
    (he : ∀ (s : Shared) (H : Hp) (C : Addr) (cl : List (Str × Addr)) (fp : List Addr), PE (X.blk s H scope (compEnvC scope cl C X.env) fp) vx tv) (hs : ∀ x, foldedSetIterable iter X.env x = pure x)
    (h : tDcT wi g tt tk tv (own.map (·.2)) σ H Q)
    (hRR : ∀ D C s' m H', Inv X pins σ H' s' → Q (.ref D) H' → s'.heap.Ns C m → FpOk X pins H' C → compPost (model X.prog X.w) X.A X.xe use Qf (.ref D) C (.ok .next) s') :
    wpAny (model X.prog X.w) X.A (comprehension (.DictComp kx vx [⟨tg, iter, ifs, 0⟩] scope pos) scope X.env pos' newDict false (eval iter X.env) use) Qf X.xe s := by
  have hfree : ∀ y ∈ scope.names, y.2 = .free → ∃ c, X.env.cells.lookup y.1 = some c := fun y hy e => (ok.free y hy e).elim (fun k => I.ok.has _ (.inl k)) fun k => I.ok.has _ (.inr k)
  refine wpAny_comprehension_free (use := use) rfl hs (closure_ok hfree) ok.kind (fun y hy e => by rw [ok.uniq y hy, e])
    (thn (hi.run pins s σ H _ I h) fun xv s1 hx => thn hx fun itv s2 h2 => ?_)
  obtain ⟨it, fp, tn, J, H2, e, I2, T, st2, f2, q⟩ := h2
  subst e
  refine wpAny_newObj_type (newEnv_comp ?_)
  -- D: the new dict
  obtain ⟨D, hD⟩ : ∃ D, s2.heap.objs.size = D := ⟨_, rfl⟩
  obtain ⟨W, ⟨m0, w0⟩, turn⟩ := q D (I2.hok.fresh (Nat.le_of_eq hD))
  rw [hD]
  obtain ⟨s3, hs3⟩ : ∃ s3 : Shared, s3 = { s2 with heap := s2.heap.push { cls := .type "dict", data := .dict #[] } } := ⟨_, rfl⟩
  have h3 : s3.heap = s2.heap.push { cls := .type "dict", data := .dict #[] } := by rw [hs3]
  have I3 : Inv X pins σ (upd H2 D (.dT [])) s3 := by
    rw [hs3]
    refine I2.laid (t' := s2.toks) (fun b o e => Heap.get?_push_of_some _ e) (Nat.le_of_eq hD) ?_
    rw [← hD]
    exact dt_empty s2.heap I2.big
  have f3 : ∀ b ∈ fp, FpOk X pins (upd H2 D (.dT [])) b ∧ b < s3.heap.objs.size := fun b hb => by
    obtain ⟨o, eo, _⟩ := T.obj _ _ st2 b hb
    have hlt : b < s2.heap.objs.size := Heap.lt_size eo
    obtain ⟨f4, f5⟩ := f2 b hb
    refine ⟨⟨?_, f5⟩, by rw [h3, Heap.size_push]; exact Nat.lt_succ_of_lt hlt⟩
    rw [upd_ne (by rw [← hD]; exact Nat.ne_of_lt hlt)]
    exact f4
  have st3 : tn 0 s3.heap := T.keep _ _ _ st2 fun b _ o e => by rw [h3]; exact Heap.get?_push_of_some _ e
  rw [← hs3]
  clear hs3 h3 st2 f2
  have I4 := block_start I3 ok hN f3
  have pg := hg s3 (upd H2 D (.dT [])) s3.heap.objs.size (cellsFrom (s3.heap.objs.size + 1) scope.names (cloFrom X.env.cells scope.names [])) fp
  have pt := ht s3 (upd H2 D (.dT [])) s3.heap.objs.size (cellsFrom (s3.heap.objs.size + 1) scope.names (cloFrom X.env.cells scope.names [])) fp
  have pk := hk s3 (upd H2 D (.dT [])) s3.heap.objs.size (cellsFrom (s3.heap.objs.size + 1) scope.names (cloFrom X.env.cells scope.names [])) fp
  have pe := he s3 (upd H2 D (.dT [])) s3.heap.objs.size (cellsFrom (s3.heap.objs.size + 1) scope.names (cloFrom X.env.cells scope.names [])) fp
  have nfp : ∀ b ∈ fp, (upd H2 D (.dT [])) b = none := fun b hb => (f3 b hb).1.1
  show codeAny _ _ (.compStart (.DictComp kx vx [⟨tg, iter, ifs, 0⟩] scope pos) 0 (.ref it) (.ref D) (compEnvC scope (cellsFrom (s3.heap.objs.size + 1) scope.names (cloFrom X.env.cells scope.names [])) s3.heap.objs.size X.env)) (compPost (model X.prog X.w) X.A X.xe use Qf (.ref D) s3.heap.objs.size) { s3 with heap := pushCells (s3.heap.push { cls := .type "dict", data := .dict #[] }) scope.names }
  have cL : (compEnvC scope (cellsFrom (s3.heap.objs.size + 1) scope.names (cloFrom X.env.cells scope.names [])) s3.heap.objs.size X.env).locals = s3.heap.objs.size := rfl
  revert I4 pg pt pk pe cL
  generalize compEnvC scope (cellsFrom (s3.heap.objs.size + 1) scope.names (cloFrom X.env.cells scope.names [])) s3.heap.objs.size X.env = ce
  have hst4 : tn 0 ({ s3 with heap := pushCells (s3.heap.push { cls := .type "dict", data := .dict #[] }) scope.names } : Shared).heap := T.keep _ _ _ st3 fun b _ o e => pushCells_keeps _ _ _ _ (Heap.get?_push_of_some _ e)
  revert hst4
  generalize ({ s3 with heap := pushCells (s3.heap.push { cls := .type "dict", data := .dict #[] }) scope.names } : Shared) = s4
  intro st4 I4 pg pt pk pe cL
  revert I3 I4 pg pt pk pe w0 nfp f3
  generalize upd H2 D (.dT []) = H3
  intro w0 I3 f3 nfp I4 pg pt pk pe
  -- the walked object's parts: pinned while the block's own code runs
  have stat : ∀ {σ' : L2.St} {H' : Hp} {s' : Shared}, Inv (X.blk s3 H3 scope ce fp) [] σ' H' s' → (∀ b ∈ fp, H' b = none) → ∀ b ∈ fp, FpOk (X.blk s3 H3 scope ce fp) [] H' b := fun {σ' H' s'} I' hn b hb =>
    ⟨hn b hb, (I'.ok.exf b hb).1, I'.ok.exfs b hb, .inl hb, fun x c e => (I'.ok.exf b hb).2 x c e, fun p hp => absurd (show p ∈ ([] : List (Addr × Obj)) ++ [] from hp) (by simp)⟩
  have loop : codeAny (model X.prog X.w) X.A (.compLoop (.DictComp kx vx [⟨tg, iter, ifs, 0⟩] scope pos) 0 (.ref it) (.ref D) ce) (compPost (model X.prog X.w) X.A X.xe use Qf (.ref D) s3.heap.objs.size) s4 := by
    refine compLoop_anyD (fun n s' => ∃ i H', Inv (X.blk s3 H3 scope ce fp) [] (wipe σ (own.map (·.2))) H' s' ∧ tn i s'.heap ∧ (∀ b ∈ fp, H' b = none) ∧ W i n H') ?_ m0 ⟨0, H3, I4, st4, nfp, w0⟩
    rintro n s5 ⟨i, H5, I5, st5, n5, w5⟩
    rcases turn i n H5 w5 with ⟨stop, qq⟩ | ⟨go, Nx, hNx, step⟩
    · refine thnF (T.done (X.blk s3 H3 scope ce fp) rfl rfl rfl hc i [] s5 _ H5 (fun _ _ => False) I5 (stat I5 n5) st5 stop) fun r s6 ⟨hr, I6⟩ => ?_
      subst hr
      have nC : H5 s3.heap.objs.size = none := by rw [← cL]; exact I6.free
      obtain ⟨m, hn, _⟩ := I6.loc
      rw [show (X.blk s3 H3 scope ce fp).env.locals = s3.heap.objs.size from cL] at hn
      have I7 : Inv X pins σ H5 s6 := I3.call' (ch := fp) I6.os I6.base I6.hok I6.bare fun b hb => ⟨(f3 b hb).1.2.2.2.1, (f3 b hb).1.2.1, (f3 b hb).1.2.2.2.2.1, (f3 b hb).1.2.2.2.2.2⟩
      exact hRR D s3.heap.objs.size s6 m H5 I7 qq hn (I3.fpOk (Nat.le_refl _) nC)
    · refine thnF (T.item (X.blk s3 H3 scope ce fp) rfl rfl rfl hc i [] s5 _ H5 (fun _ _ => False) I5 (stat I5 n5) st5 go) fun r s6 ⟨u, hr, h6⟩ => ?_
      subst hr
      refine thnF h6 fun _ s7 ⟨x, H7, I7, r7, y7, st7, n7⟩ => ?_
      refine thnF (pg.run _ s7 _ H7 x u _ (I7.pinned (stat I7 n7) (T.obj _ _ st7)) r7 (step x H7 y7)) fun _ s8 ⟨σ8, H8, I8, hw8, q8⟩ => ?_
      refine thnF (pt.run _ s8 σ8 H8 _ I8 q8) fun b s9 ⟨H9, I9, q9⟩ => ?_
      have fin : ∀ {s' : Shared} {H' : Hp}, Inv (X.blk s3 H3 scope ce fp) ([] ++ pinsAt fp s7.heap) σ8 H' s' → Nx H' → ∃ m, m < n ∧ ∃ i H', Inv (X.blk s3 H3 scope ce fp) [] (wipe σ (own.map (·.2))) H' s' ∧ tn i s'.heap ∧ (∀ b ∈ fp, H' b = none) ∧ W i m H' := fun {s' H'} I' nx => by
        obtain ⟨m', hm, w'⟩ := hNx H' nx
        have pin' : ∀ b ∈ fp, ∀ o, s7.heap.get? b = some o → s'.heap.get? b = some o ∧ H' b = none := fun b hb o e =>
          have z := I'.pin (b, o) (List.mem_append_right _ (List.mem_append_right _ (mem_pinsAt hb e)))
          ⟨z.1, z.2.1⟩
        refine ⟨m', hm, i + 1, H', (I'.unpinned (pins := [])).weak (by rw [← hw8, wipe_length]) (fun j v e => ?_), T.keep _ _ _ st7 fun b hb o e => (pin' b hb o e).1, fun b hb => ?_, w'⟩
        · rw [← hw8] at e
          exact (wipe_some e).1
        · obtain ⟨o, e, _⟩ := T.obj _ _ st7 b hb
          exact (pin' b hb o e).2
      cases b with
      | false => exact fin I9 (by simpa using q9)
      | true =>
        have q9 := (by simpa using q9 : tk σ8 H9 fun y H4 => tv σ8 H4 fun z H5 => ∃ H6, DPut H5 D y z H6 ∧ Nx H6)
        refine thnF (pk.run _ s9 σ8 H9 _ I9 q9) fun z s10 ⟨yk, H10, I10, r10, q10⟩ => ?_
        refine thnF (pe.run _ s10 σ8 H10 _ I10 q10) fun z2 s11 ⟨yv, H11, I11, r11, H12, hp, nx⟩ => ?_
        exact put_dict (X := X.blk s3 H3 scope ce fp) hu I11 hp r10 r11 fun s12 I12 => fin I12 nx
  exact codeAny_compStart_dict loop (T.self X.A 0 _ _ _ st4 loop)
theorem pe_dcT {X : Cx} {kx vx tg iter : Expr} {ifs : List Expr} {scope : Scope} {own : List (Str × Nat)} {pos : Pos} {wi : TI} {g : TG} {tt : TT} {tk tv : TE} (hc : X.calm = true) (hN : X.N.Nodup) (hu : X.A.units < cLine) (hi : PI X tg iter wi) (ok : BlkOk X.N X.env.scope scope own)
    (hg : ∀ (s : Shared) (H : Hp) (C : Addr) (cl : List (Str × Addr)) (fp : List Addr), PG (X.blk s H scope (compEnvC scope cl C X.env) fp) tg g) (ht : ∀ (s : Shared) (H : Hp) (C : Addr) (cl : List (Str × Addr)) (fp : List Addr), PTs (X.blk s H scope (compEnvC scope cl C X.env) fp) ifs tt)
    (hk : ∀ (s : Shared) (H : Hp) (C : Addr) (cl : List (Str × Addr)) (fp : List Addr), PE (X.blk s H scope (compEnvC scope cl C X.env) fp) kx tk)
    (he : ∀ (s : Shared) (H : Hp) (C : Addr) (cl : List (Str × Addr)) (fp : List Addr), PE (X.blk s H scope (compEnvC scope cl C X.env) fp) vx tv) (hs : ∀ x, foldedSetIterable iter X.env x = pure x := by intro _; rfl) :
    PE X (.DictComp kx vx [⟨tg, iter, ifs, 0⟩] scope pos) (tDcT wi g tt tk tv (own.map (·.2))) := by
  refine ⟨fun pins s σ H Q I h => ?_⟩
  rw [arm_eval_DictComp]
  refine dcT_core I hc hN hu hi ok hg ht hk he hs h fun D C s' m H' I' q hn f => ⟨m, hn, fun h'' sb => ?_⟩
  obtain ⟨f0, f1, f2, f3, f4, f5⟩ := f
  exact ⟨.ref D, H', I'.turned (t' := s'.toks) (fun b o hb e => (sb.2 b hb).trans e) f0 f1 f3 f4 f5, rfl, q⟩
/-- stored at once under a name of the same line -/
theorem ps_setDcT {X : Cx} {i : Nat} {y : Str} {py : Pos} {kx vx tg iter : Expr} {ifs : List Expr} {scope : Scope} {own : List (Str × Nat)} {pos spos : Pos} {wi : TI} {g : TG} {tt : TT} {tk tv : TE} (hy : X.N[i]? = some y) (hyl : X.env.scope.names.lookup y = some .local)
    (hsw : swapsWith (.DictComp kx vx [⟨tg, iter, ifs, 0⟩] scope pos) (some (.Name y py)) spos.line X.env = pure true) (hc : X.calm = true) (hN : X.N.Nodup) (hu : X.A.units < cLine) (hi : PI X tg iter wi) (ok : BlkOk X.N X.env.scope scope own)
    (hg : ∀ (s : Shared) (H : Hp) (C : Addr) (cl : List (Str × Addr)) (fp : List Addr), PG (X.blk s H scope (compEnvC scope cl C X.env) fp) tg g) (ht : ∀ (s : Shared) (H : Hp) (C : Addr) (cl : List (Str × Addr)) (fp : List Addr), PTs (X.blk s H scope (compEnvC scope cl C X.env) fp) ifs tt)
    (hk : ∀ (s : Shared) (H : Hp) (C : Addr) (cl : List (Str × Addr)) (fp : List Addr), PE (X.blk s H scope (compEnvC scope cl C X.env) fp) kx tk)
    (he : ∀ (s : Shared) (H : Hp) (C : Addr) (cl : List (Str × Addr)) (fp : List Addr), PE (X.blk s H scope (compEnvC scope cl C X.env) fp) vx tv) (hs : ∀ x, foldedSetIterable iter X.env x = pure x := by intro _; rfl) :
    PS X (.Assign [.Name y py] (.DictComp kx vx [⟨tg, iter, ifs, 0⟩] scope pos) spos) (tAsg (tDcT wi g tt tk tv (own.map (·.2))) (gName i)) := by
  refine ⟨fun pins s σ H D I h => ?_⟩
  rw [exec_Assign_Name_used _ _ _ _ hsw]
  refine wpAny_bind (wpAny_standAt (wpAny_bind ?_))
  show wpAny _ X.A (do let _ ← comprehension (.DictComp kx vx [⟨tg, iter, ifs, 0⟩] scope pos) scope X.env (firstIterPos [⟨tg, iter, ifs, 0⟩] pos) newDict false (eval iter X.env) (some (assign (.Name y py) X.env))) _ _ s
  have h : tDcT wi g tt tk tv (own.map (·.2)) σ H (fun x H1 => gName i x σ H1 D.nx) := h
  refine wpAny_bind (thn (dcT_core (Qf := fun _ s' => SP X pins D .next s') I hc hN hu hi ok hg ht hk he hs h fun L C s' m H' I' q hn f => ?_) fun _ s' hq => wpAny_pure (wpAny_pure hq))
  show wpAny _ _ (assign (.Name y py) X.env (.ref L)) _ _ _
  refine wpAny_assign_Name (store_ok2 (v := V.ref L) I' hN hy (.inl hyl) rfl (fun s2 I2 ⟨a, sb, ha⟩ => ?_) (.inr hyl))
  obtain ⟨f0, f1, f2, f3, f4, f5⟩ := f
  have haC : C ≠ a := ha.elim (fun z => by rw [z]; exact f1) fun z e => f4 y a z e.symm
  exact ⟨m, hn.sameBut sb haC, fun h3 sb3 => ⟨_, H', I2.turned (t' := s2.toks) (fun b o hb e => (sb3.2 b hb).trans e) f0 f1 f3 f4 f5, q⟩⟩
theorem sw_trueD {kx vx : Expr} {gs : List Comprehension} {scope : Scope} {pos py : Pos} {y : Str} {l : Nat} {env : Env} (hk : env.scope.kind = .function) (hy : env.scope.names.lookup y = some .local) (hl : (py.line == pos.line) = true)
    (ha : (scope.names.any fun (n, k) => n == y && (k == .local || k == .cell)) = false) : swapsWith (.DictComp kx vx gs scope pos) (some (.Name y py)) l env = pure true := by
  have hb : env.blockKind = .function := by unfold Env.blockKind; rw [hk]; rfl
  unfold swapsWith
  simp only [hb, show env.kindOf y = some .local from hy, ha, Expr.pos, hl]
  rfl
theorem dcT_it {J : It} {n : Nat} {G : Hp → Prop} {Y : Nat → Hp → V → Hp → Prop} (w : Walk J n G Y) {g : TG} {tt : TT} {tk tv : TE} {vs : List Nat} {σ : L2.St} {H1 : Hp} {D : Addr} {Qd : Hp → Prop} (Pv : Nat → Hp → Prop) (h0 : Pv 0 (upd H1 D (.dT []))) (hG : ∀ i H, i ≤ n → Pv i H → G H)
    (hs : ∀ i x H H', i < n → Pv i H → Y i H x H' → g x (wipe σ vs) H' fun σ2 H2 => wipe σ2 vs = wipe σ vs ∧ tt σ2 H2 fun b H3 =>
      if b = true then tk σ2 H3 fun y H4 => tv σ2 H4 fun z H5 => ∃ H6, DPut H5 D y z H6 ∧ Pv (i + 1) H6 else Pv (i + 1) H3) (hd : ∀ H, Pv n H → Qd H) :
    ∃ W : Nat → Nat → Hp → Prop, (∃ m, W 0 m (upd H1 D (.dT []))) ∧ ∀ i m H, W i m H →
      (J.stop i H ∧ Qd H) ∨ (J.go i H ∧ ∃ Nx : Hp → Prop, (∀ H', Nx H' → ∃ m', m' < m ∧ W (i + 1) m' H') ∧ ∀ x H', J.yld i H x H' → g x (wipe σ vs) H' fun σ2 H2 => wipe σ2 vs = wipe σ vs ∧ tt σ2 H2 fun b H3 =>
        if b = true then tk σ2 H3 fun y H4 => tv σ2 H4 fun z H5 => ∃ H6, DPut H5 D y z H6 ∧ Nx H6 else Nx H3) := by
  refine ⟨fun i m H => m = n - i ∧ i ≤ n ∧ Pv i H, ⟨n, (Nat.sub_zero n).symm, Nat.zero_le n, h0⟩, ?_⟩
  rintro i m H ⟨em, hi, p⟩
  have q := hG i H hi p
  rcases Nat.lt_or_ge i n with hlt | hge
  · refine .inr ⟨w.goes i H hlt q, Pv (i + 1), fun H' p' => ⟨n - (i + 1), by omega, rfl, hlt, p'⟩, fun x H' y => ?_⟩
    exact hs i x H H' hlt p (w.yields i H x H' hlt q y)
  · have e : i = n := by omega
    subst e
    exact .inl ⟨w.stops H q, hd H p⟩
/-! a dict that nobody else has, walked: it stays locked -/
def iKeysC (td : TE) : TI := fun σ H R => td σ H fun x H1 => ∃ d kvs, x = .ref d ∧ H1 d = some (.dT kvs) ∧ ∀ od, R (Itkt d od kvs) (upd H1 d (.frz od (.dT kvs)))
theorem pi_keysC {X : Cx} {tg e : Expr} {td : TE} (he : PE X e td) : PI X tg e (iKeysC td) := by
  refine ⟨fun pins s σ H R I h => ?_⟩
  refine thn (he.run pins s σ H _ I h) fun u s1 ⟨x, H1, I0, rx, d, kvs, ex, h0, q⟩ => ?_
  subst ex
  obtain rfl : u = Value.ref d := rx
  obtain ⟨od, I1⟩ := I0.lock h0 True.intro
  obtain ⟨hs, hgd, hx, es, ep, hdt, hsz, ent⟩ := I1.frzT upd_same
  refine iter_keys hs hgd hx hdt (pi_one (tk := s1.toks) I1 _ (turn_keysT _ hdt) ⟨_, Heap.get?_push_size _ rfl, rfl, ?_⟩ (q od))
  rw [hsz] <;> rfl
/-! x in [tuples], in a comprehension's block too -/
theorem un65 {k : Nat} {A : Around} (r : Room k A) : A.units + 65 < cLine := by have := un70 r; omega
theorem op_inDK {X : Cx} {K : PySem.W.Frag} (h : X.K = K) (hu : X.A.units + 65 < cLine) : OpR X (compareOp .In) (rInD K) := h ▸ op_inD hu
theorem op_notInDK {X : Cx} {K : PySem.W.Frag} (h : X.K = K) (hu : X.A.units + 65 < cLine) : OpR X (compareOp .NotIn) (rNotInD K) := h ▸ op_notInD hu
end Nw

namespace Nw
open PySem PySem.Spec PyProof.Rows L2
def top (i : Nat) : Stmt := PySem.Challenge.pw_newsinorder_k42_facts_in_timetables.main.body.getD i (.Pass ⟨0, 0, 0, 0⟩)
abbrev s_NoLink__init : Stmt := inClass (top 6) 0
abbrev n_NoLink__init : List Str := ["self", "letter"]
theorem sc_NoLink__init : FnScope n_NoLink__init ["self", "letter"] (defScope s_NoLink__init) := ⟨rfl, rfl, rfl, by decide +kernel, rfl, by decide +kernel, by decide +kernel⟩
abbrev s_is_number : Stmt := top 13
abbrev n_is_number : List Str := ["thing"]
theorem sc_is_number : FnScope n_is_number ["thing"] (defScope s_is_number) := ⟨rfl, rfl, rfl, by decide +kernel, rfl, by decide +kernel, by decide +kernel⟩
abbrev s_is_earlier : Stmt := top 16
abbrev n_is_earlier : List Str := ["one", "other"]
theorem sc_is_earlier : FnScope n_is_earlier ["one", "other"] (defScope s_is_earlier) := ⟨rfl, rfl, rfl, by decide +kernel, rfl, by decide +kernel, by decide +kernel⟩
abbrev s_is_ride : Stmt := top 18
abbrev n_is_ride : List Str := ["thing"]
theorem sc_is_ride : FnScope n_is_ride ["thing"] (defScope s_is_ride) := ⟨rfl, rfl, rfl, by decide +kernel, rfl, by decide +kernel, by decide +kernel⟩
abbrev s_ended : Stmt := top 19
abbrev n_ended : List Str := ["rides", "moment", "found", "begin", "end"]
theorem sc_ended : FnScope n_ended ["rides", "moment"] (defScope s_ended) := ⟨rfl, rfl, rfl, by decide +kernel, rfl, by decide +kernel, by decide +kernel⟩
abbrev s_needed : Stmt := top 21
abbrev n_needed : List Str := ["rides", "ends", "begin", "end", "found", "one"]
theorem sc_needed : FnScope n_needed ["rides"] (defScope s_needed) := ⟨rfl, rfl, rfl, by decide +kernel, rfl, by decide +kernel, by decide +kernel⟩
abbrev s_Link__init : Stmt := inClass (top 23) 0
abbrev n_Link__init : List Str := ["self", "rides", "at", "ride"]
theorem sc_Link__init : FnScope n_Link__init ["self", "rides"] (defScope s_Link__init) := ⟨rfl, rfl, rfl, by decide +kernel, rfl, by decide +kernel, by decide +kernel⟩
abbrev s_Link__le : Stmt := inClass (top 23) 9
abbrev n_Link__le : List Str := ["self", "other", "begin", "end"]
theorem sc_Link__le : FnScope n_Link__le ["self", "other"] (defScope s_Link__le) := ⟨rfl, rfl, rfl, by decide +kernel, rfl, by decide +kernel, by decide +kernel⟩
abbrev s_need_table : Stmt := top 26
abbrev n_need_table : List Str := ["table"]
theorem sc_need_table : FnScope n_need_table ["table"] (defScope s_need_table) := ⟨rfl, rfl, rfl, by decide +kernel, rfl, by decide +kernel, by decide +kernel⟩
abbrev s_Timetable__init : Stmt := inClass (top 27) 0
abbrev n_Timetable__init : List Str := ["self", "links", "letter"]
theorem sc_Timetable__init : FnScope n_Timetable__init ["self", "links"] (defScope s_Timetable__init) := ⟨rfl, rfl, rfl, by decide +kernel, rfl, by decide +kernel, by decide +kernel⟩
abbrev s_Timetable_letters : Stmt := inClass (top 27) 1
abbrev n_Timetable_letters : List Str := ["self"]
theorem sc_Timetable_letters : FnScope n_Timetable_letters ["self"] (defScope s_Timetable_letters) := ⟨rfl, rfl, rfl, by decide +kernel, rfl, by decide +kernel, by decide +kernel⟩
abbrev s_Timetable__getitem : Stmt := inClass (top 27) 2
abbrev n_Timetable__getitem : List Str := ["self", "index"]
theorem sc_Timetable__getitem : FnScope n_Timetable__getitem ["self", "index"] (defScope s_Timetable__getitem) := ⟨rfl, rfl, rfl, by decide +kernel, rfl, by decide +kernel, by decide +kernel⟩
abbrev s_is_fact : Stmt := top 30
abbrev n_is_fact : List Str := ["thing", "letter"]
theorem sc_is_fact : FnScope n_is_fact ["thing"] (defScope s_is_fact) := ⟨rfl, rfl, rfl, by decide +kernel, rfl, by decide +kernel, by decide +kernel⟩
abbrev s_need_facts : Stmt := top 31
abbrev n_need_facts : List Str := ["facts", "fact"]
theorem sc_need_facts : FnScope n_need_facts ["facts"] (defScope s_need_facts) := ⟨rfl, rfl, rfl, by decide +kernel, rfl, by decide +kernel, by decide +kernel⟩
abbrev s_never_slower : Stmt := top 32
abbrev n_never_slower : List Str := ["facts", "found", "fact", "middle", "one", "other", "letter"]
theorem sc_never_slower : FnScope n_never_slower ["facts"] (defScope s_never_slower) := ⟨rfl, rfl, rfl, by decide +kernel, rfl, by decide +kernel, by decide +kernel⟩
abbrev s_chain : Stmt := top 34
abbrev n_chain : List Str := ["facts", "texts", "pair", "text"]
theorem sc_chain : FnScope n_chain ["facts"] (defScope s_chain) := ⟨rfl, rfl, rfl, by decide +kernel, rfl, by decide +kernel, by decide +kernel⟩
abbrev s_keeps : Stmt := top 35
abbrev n_keeps : List Str := ["table", "facts", "one", "other"]
theorem sc_keeps : FnScope n_keeps ["table", "facts"] (defScope s_keeps) := ⟨rfl, rfl, rfl, by decide +kernel, rfl, by decide +kernel, by decide +kernel⟩
abbrev s_l_begun : Stmt := top 37
abbrev n_l_begun : List Str := ["_law_script", "_law_great", "_law_lump"]
theorem sc_l_begun : FnScope n_l_begun ["_law_script"] (defScope s_l_begun) := ⟨rfl, rfl, rfl, by decide +kernel, rfl, by decide +kernel, by decide +kernel⟩
abbrev s_l_next : Stmt := top 38
abbrev n_l_next : List Str := ["_law_draw", "_law_many", "_law_found", "_law_turn", "_law_lump", "_law_mixed"]
theorem sc_l_next : FnScope n_l_next ["_law_draw", "_law_many"] (defScope s_l_next) := ⟨rfl, rfl, rfl, by decide +kernel, rfl, by decide +kernel, by decide +kernel⟩
abbrev s_l_pick : Stmt := top 39
abbrev n_l_pick : List Str := ["_law_draw", "_law_some_here"]
theorem sc_l_pick : FnScope n_l_pick ["_law_draw", "_law_some_here"] (defScope s_l_pick) := ⟨rfl, rfl, rfl, by decide +kernel, rfl, by decide +kernel, by decide +kernel⟩
abbrev s_l_shuffled : Stmt := top 40
abbrev n_l_shuffled : List Str := ["_law_draw", "_law_some_here", "_law_left", "_law_found"]
theorem sc_l_shuffled : FnScope n_l_shuffled ["_law_draw", "_law_some_here"] (defScope s_l_shuffled) := ⟨rfl, rfl, rfl, by decide +kernel, rfl, by decide +kernel, by decide +kernel⟩
abbrev s_l_some : Stmt := top 41
abbrev n_l_some : List Str := ["_law_draw", "_law_many"]
theorem sc_l_some : FnScope n_l_some ["_law_draw", "_law_many"] (defScope s_l_some) := ⟨rfl, rfl, rfl, by decide +kernel, rfl, by decide +kernel, by decide +kernel⟩
abbrev s_l_rides : Stmt := top 42
abbrev n_l_rides : List Str := ["_law_draw", "_law_many", "_law_wide", "_law_found", "_law_turn", "_law_begin"]
theorem sc_l_rides : FnScope n_l_rides ["_law_draw", "_law_many", "_law_wide"] (defScope s_l_rides) := ⟨rfl, rfl, rfl, by decide +kernel, rfl, by decide +kernel, by decide +kernel⟩
abbrev s_l_place : Stmt := top 43
abbrev n_l_place : List Str := ["_law_moment"]
theorem sc_l_place : FnScope n_l_place ["_law_moment"] (defScope s_l_place) := ⟨rfl, rfl, rfl, by decide +kernel, rfl, by decide +kernel, by decide +kernel⟩
abbrev s_l_end : Stmt := top 44
abbrev n_l_end : List Str := ["_law_rides_here", "_law_moment", "_law_ends", "_law_begin", "_law_end_here"]
theorem sc_l_end : FnScope n_l_end ["_law_rides_here", "_law_moment"] (defScope s_l_end) := ⟨rfl, rfl, rfl, by decide +kernel, rfl, by decide +kernel, by decide +kernel⟩
abbrev s_l_lines : Stmt := top 45
abbrev n_l_lines : List Str := ["_law_draw", "_law_letters", "_law_many", "_law_wide", "_law_letter"]
theorem sc_l_lines : FnScope n_l_lines ["_law_draw", "_law_letters", "_law_many", "_law_wide"] (defScope s_l_lines) := ⟨rfl, rfl, rfl, by decide +kernel, rfl, by decide +kernel, by decide +kernel⟩
abbrev s_l_facts : Stmt := top 46
abbrev n_l_facts : List Str := ["_law_draw", "_law_letters", "_law_many", "_law_pairs", "_law_found", "_law_x", "_law_turn", "_law_y"]
theorem sc_l_facts : FnScope n_l_facts ["_law_draw", "_law_letters", "_law_many"] (defScope s_l_facts) := ⟨rfl, rfl, rfl, by decide +kernel, rfl, by decide +kernel, by decide +kernel⟩
abbrev s_l_slower : Stmt := top 47
abbrev n_l_slower : List Str := ["_law_facts_here", "_law_found", "_law_turn", "_law_x", "_law_y", "_law_letter", "_law_begin", "_law_end_here"]
theorem sc_l_slower : FnScope n_l_slower ["_law_facts_here"] (defScope s_l_slower) := ⟨rfl, rfl, rfl, by decide +kernel, rfl, by decide +kernel, by decide +kernel⟩
abbrev s_l_kept : Stmt := top 48
abbrev n_l_kept : List Str := ["_law_lines_here", "_law_slower_here", "_law_found", "_law_letter", "_law_other"]
theorem sc_l_kept : FnScope n_l_kept ["_law_lines_here", "_law_slower_here"] (defScope s_l_kept) := ⟨rfl, rfl, rfl, by decide +kernel, rfl, by decide +kernel, by decide +kernel⟩
abbrev s_l_quick : Stmt := top 49
abbrev n_l_quick : List Str := ["_law_lines_here", "_law_x", "_law_y", "_law_begin", "_law_end_here"]
theorem sc_l_quick : FnScope n_l_quick ["_law_lines_here", "_law_x", "_law_y"] (defScope s_l_quick) := ⟨rfl, rfl, rfl, by decide +kernel, rfl, by decide +kernel, by decide +kernel⟩
abbrev s_l_keeps : Stmt := top 50
abbrev n_l_keeps : List Str := ["_law_lines_here", "_law_slower_here", "_law_x", "_law_y"]
theorem sc_l_keeps : FnScope n_l_keeps ["_law_lines_here", "_law_slower_here"] (defScope s_l_keeps) := ⟨rfl, rfl, rfl, by decide +kernel, rfl, by decide +kernel, by decide +kernel⟩
abbrev s_law : Stmt := top 51
abbrev n_law : List Str := ["_law_script", "_law_draw", "_law_turn", "_law_facts_here", "_law_slower_here", "_law_due", "_law_texts", "_law_found", "_law_letters", "_law_lines_here", "_law_way", "_law_table", "_law_kept_here", "_law_is_kept", "_law_some_here", "_law_x", "_law_y", "_law_text", "_law_letter"]
theorem sc_law : FnScope n_law ["_law_script"] (defScope s_law) := ⟨rfl, rfl, rfl, by decide +kernel, rfl, by decide +kernel, by decide +kernel⟩
structure Txt (K : PySem.W.Frag) (mg : Str → Option Value) : Prop where
  b_abs : mg "abs" = none
  b_all : mg "all" = none
  b_bool : mg "bool" = none
  b_dict : mg "dict" = none
  b_enumerate : mg "enumerate" = none
  b_int : mg "int" = none
  b_isinstance : mg "isinstance" = none
  b_len : mg "len" = none
  b_list : mg "list" = none
  b_min : mg "min" = none
  b_property : mg "property" = none
  b_range : mg "range" = none
  b_repr : mg "repr" = none
  b_sorted : mg "sorted" = none
  b_str : mg "str" = none
  b_tuple : mg "tuple" = none
  g__wall : mg "_wall" = some (.ref (He.ga K "_wall"))
  g_is_number : mg "is_number" = some (.ref (He.ga K "is_number"))
  g_is_moment : mg "is_moment" = some (.ref (He.ga K "is_moment"))
  g_need_moment : mg "need_moment" = some (.ref (He.ga K "need_moment"))
  g_is_earlier : mg "is_earlier" = some (.ref (He.ga K "is_earlier"))
  g_sooner_of : mg "sooner_of" = some (.ref (He.ga K "sooner_of"))
  g_is_ride : mg "is_ride" = some (.ref (He.ga K "is_ride"))
  g_ended : mg "ended" = some (.ref (He.ga K "ended"))
  g_begun : mg "begun" = some (.ref (He.ga K "begun"))
  g_needed : mg "needed" = some (.ref (He.ga K "needed"))
  g_link_by : mg "link_by" = some (.ref (He.ga K "link_by"))
  g_need_table : mg "need_table" = some (.ref (He.ga K "need_table"))
  g_is_fact : mg "is_fact" = some (.ref (He.ga K "is_fact"))
  g_need_facts : mg "need_facts" = some (.ref (He.ga K "need_facts"))
  g_never_slower : mg "never_slower" = some (.ref (He.ga K "never_slower"))
  g_chain : mg "chain" = some (.ref (He.ga K "chain"))
  g_keeps : mg "keeps" = some (.ref (He.ga K "keeps"))
  g__law_begun : mg "_law_begun" = some (.ref (He.ga K "_law_begun"))
  g__law_next : mg "_law_next" = some (.ref (He.ga K "_law_next"))
  g__law_pick : mg "_law_pick" = some (.ref (He.ga K "_law_pick"))
  g__law_shuffled : mg "_law_shuffled" = some (.ref (He.ga K "_law_shuffled"))
  g__law_some : mg "_law_some" = some (.ref (He.ga K "_law_some"))
  g__law_rides : mg "_law_rides" = some (.ref (He.ga K "_law_rides"))
  g__law_place : mg "_law_place" = some (.ref (He.ga K "_law_place"))
  g__law_end : mg "_law_end" = some (.ref (He.ga K "_law_end"))
  g__law_lines : mg "_law_lines" = some (.ref (He.ga K "_law_lines"))
  g__law_facts : mg "_law_facts" = some (.ref (He.ga K "_law_facts"))
  g__law_slower : mg "_law_slower" = some (.ref (He.ga K "_law_slower"))
  g__law_kept : mg "_law_kept" = some (.ref (He.ga K "_law_kept"))
  g__law_quick : mg "_law_quick" = some (.ref (He.ga K "_law_quick"))
  g__law_keeps : mg "_law_keeps" = some (.ref (He.ga K "_law_keeps"))
  g_law : mg "law" = some (.ref (He.ga K "law"))
  g_OrderError : mg "OrderError" = some (.ref (He.ga K "OrderError"))
  g_NoMoment : mg "NoMoment" = some (.ref (He.ga K "NoMoment"))
  g_NoRides : mg "NoRides" = some (.ref (He.ga K "NoRides"))
  g_NoTable : mg "NoTable" = some (.ref (He.ga K "NoTable"))
  g_NoLink : mg "NoLink" = some (.ref (He.ga K "NoLink"))
  m_NoLink___init__ : Meth K (He.ga K "NoLink") "__init__" (He.ma K (He.ga K "NoLink") "__init__")
  na_NoLink_letter : NoAttr K (He.ga K "NoLink") "letter"
  g_NoFacts : mg "NoFacts" = some (.ref (He.ga K "NoFacts"))
  g_TooMany : mg "TooMany" = some (.ref (He.ga K "TooMany"))
  g_Link : mg "Link" = some (.ref (He.ga K "Link"))
  cl_Link : Cls K (He.ga K "Link")
  mk_Link : Mk K (He.ga K "Link") (He.ma K (He.ga K "Link") "__init__")
  m_Link_end : Meth K (He.ga K "Link") "end" (He.ma K (He.ga K "Link") "end")
  m_Link_begin : Meth K (He.ga K "Link") "begin" (He.ma K (He.ga K "Link") "begin")
  m_Link___eq__ : Meth K (He.ga K "Link") "__eq__" (He.ma K (He.ga K "Link") "__eq__")
  m_Link___mul__ : Meth K (He.ga K "Link") "__mul__" (He.ma K (He.ga K "Link") "__mul__")
  m_Link___or__ : Meth K (He.ga K "Link") "__or__" (He.ma K (He.ga K "Link") "__or__")
  m_Link___and__ : Meth K (He.ga K "Link") "__and__" (He.ma K (He.ga K "Link") "__and__")
  m_Link___invert__ : Meth K (He.ga K "Link") "__invert__" (He.ma K (He.ga K "Link") "__invert__")
  m_Link___le__ : Meth K (He.ga K "Link") "__le__" (He.ma K (He.ga K "Link") "__le__")
  na_Link_own_rides : NoAttr K (He.ga K "Link") "own_rides"
  g_Timetable : mg "Timetable" = some (.ref (He.ga K "Timetable"))
  cl_Timetable : Cls K (He.ga K "Timetable")
  mk_Timetable : Mk K (He.ga K "Timetable") (He.ma K (He.ga K "Timetable") "__init__")
  m_Timetable___getitem__ : Meth K (He.ga K "Timetable") "__getitem__" (He.ma K (He.ga K "Timetable") "__getitem__")
  m_Timetable___iter__ : Meth K (He.ga K "Timetable") "__iter__" (He.ma K (He.ga K "Timetable") "__iter__")
  m_Timetable___eq__ : Meth K (He.ga K "Timetable") "__eq__" (He.ma K (He.ga K "Timetable") "__eq__")
  m_Timetable_need_links : Meth K (He.ga K "Timetable") "need_links" (He.ma K (He.ga K "Timetable") "need_links")
  m_Timetable_led : Meth K (He.ga K "Timetable") "led" (He.ma K (He.ga K "Timetable") "led")
  m_Timetable_go : Meth K (He.ga K "Timetable") "go" (He.ma K (He.ga K "Timetable") "go")
  m_Timetable_track : Meth K (He.ga K "Timetable") "track" (He.ma K (He.ga K "Timetable") "track")
  m_Timetable_turned : Meth K (He.ga K "Timetable") "turned" (He.ma K (He.ga K "Timetable") "turned")
  na_Timetable_own_links : NoAttr K (He.ga K "Timetable") "own_links"
  c_FIRST : ∃ t, mg "FIRST" = some (.str "first" t)
  c_LAST : ∃ t, mg "LAST" = some (.str "last" t)
  c_MOST_RIDES : ∃ t, mg "MOST_RIDES" = some (.int 60 t)
  c_LINKS : ∃ t, mg "LINKS" = some (.str "abcd" t)
  c_MOST_FACTS : ∃ t, mg "MOST_FACTS" = some (.int 12 t)
  is_Link : InsF K (He.ga K "Link")
  is_Timetable : InsF K (He.ga K "Timetable")
  xf_NoLink : ExF K (He.ga K "NoLink")
  xo_NoLink : OexC K (He.ga K "NoLink")
  oe : OeI K (He.ga K "OrderError")
  p_Timetable_letters : PropOf K (He.ga K "Timetable") "letters" (propAt K (He.ga K "Timetable") "letters") (propGet K (He.ga K "Timetable") "letters")
end Nw

namespace Nw
open PySem PySem.Spec PyProof.Rows L2
/-! ### messages -/
abbrev Ms := Nat × Int × Int
def isMs (I : Hp) (v : V) (m : Ms) : Prop := ∃ a, v = .ref a ∧ I a = some (.tup [.str (sg m.1), .int m.2.1, .int m.2.2])
theorem isMs.up {I I' : Hp} {v : V} {m : Ms} (h : isMs I v m) (e : Same I I') : isMs I' v m := let ⟨a, h1, h2⟩ := h; ⟨a, h1, e _ _ h2⟩
def Dt.isLet : Dt → Bool
  | .str [c] => decide (97 ≤ c ∧ c ≤ 100)
  | _ => false
def Dt.isMsg : Dt → Bool
  | .sq true [x, y, z] => x.isLet && (y.isNum && z.isNum)
  | _ => false
def Dt.ms : Dt → Ms
  | .sq true [.str [c], .int b, .int e] => (c, b, e)
  | _ => (0, 0, 0)
theorem let_of {x : Dt} (h : x.isLet = true) : ∃ c, x = .str [c] ∧ 97 ≤ c ∧ c ≤ 100 := by
  match x, h with
  | .str [c], h => exact ⟨c, rfl, (of_decide_eq_true h).1, (of_decide_eq_true h).2⟩
theorem num_of {x : Dt} (h : x.isNum = true) : ∃ i, x = .int i := by
  match x, h with
  | .int i, _ => exact ⟨i, rfl⟩
theorem msg_of {x : Dt} (h : x.isMsg = true) : ∃ c b e, x = .sq true [.str [c], .int b, .int e] ∧ 97 ≤ c ∧ c ≤ 100 := by
  match x, h with
  | .sq true [x, y, z], h =>
    simp only [Dt.isMsg, Bool.and_eq_true] at h
    obtain ⟨c, rfl, h1, h2⟩ := let_of h.1
    obtain ⟨b, rfl⟩ := num_of h.2.1
    obtain ⟨e, rfl⟩ := num_of h.2.2
    exact ⟨c, b, e, rfl, h1, h2⟩
section
variable {K : PySem.W.Frag} {I H : Hp} {v : V} {x : Dt}
theorem isE.str1 {c : Nat} (h : isE K I v (.str [c])) : v = .str (sg c) := by
  cases h
  rfl
theorem isE.int1 {i : Int} (h : isE K I v (.int i)) : v = .int i := by
  cases h
  rfl
theorem isE.ms (h : isE K I v x) (m : x.isMsg = true) : isMs I v x.ms ∧ 97 ≤ x.ms.1 ∧ x.ms.1 ≤ 100 := by
  obtain ⟨c, b, e, rfl, h1, h2⟩ := msg_of m
  obtain ⟨a, vs, rfl, ha, es⟩ := h.inv
  match vs, es.len, es with
  | [v0, v1, v2], _, es =>
    have e0 := (es.at_ 0 v0 _ rfl rfl).str1
    have e1 := (es.at_ 1 v1 _ rfl rfl).int1
    have e2 := (es.at_ 2 v2 _ rfl rfl).int1
    subst e0 e1 e2
    exact ⟨⟨a, rfl, ha⟩, h1, h2⟩
theorem isMs.dt {m : Ms} (h : isMs I v m) : isE K I v (.sq true [.str [m.1], .int m.2.1, .int m.2.2]) := by
  obtain ⟨a, rfl, ha⟩ := h
  exact .of (t := true) ha (.cons (.str [m.1] (by show 1 ≤ 100000; decide)) (.cons (.int _) (.cons (.int _) .nil)))
end
theorem sg_inj {a b : Nat} (h : sg a = sg b) : a = b := mk_inj (a := [a]) (b := [b]) h |> List.cons.inj |>.1
theorem dec_sg (a b : Nat) : decide (V.str (sg a) = V.str (sg b)) = decide (a = b) := by
  by_cases h : a = b
  · rw [h, decide_eq_true rfl, decide_eq_true rfl]
  · rw [decide_eq_false h, decide_eq_false fun z => h (sg_inj (V.str.inj z))]
theorem in_abcd (c : Nat) : decide (c ∈ ("abcd" : Str).cps.toList) = decide (97 ≤ c ∧ c ≤ 100) := by
  have e : ("abcd" : Str).cps.toList = [97, 98, 99, 100] := by decide +kernel
  rw [e, Bool.eq_iff_iff, decide_eq_true_iff, decide_eq_true_iff]
  simp only [List.mem_cons, List.not_mem_nil, or_false]
  omega
def against (m n : Ms) : Bool := decide (m.1 = n.1) && ((decide (m.2.1 ≤ n.2.1) && decide (n.2.2 < m.2.2)) || (decide (n.2.1 ≤ m.2.1) && decide (m.2.2 < n.2.2)))
theorem at30 {a b c : V} : atI [a, b, c] 0 = some a := by rw [atI_nat' (j := 0) (by decide)]; rfl
theorem at31 {a b c : V} : atI [a, b, c] 1 = some b := by rw [atI_nat' (j := 1) (by decide)]; rfl
theorem at32 {a b c : V} : atI [a, b, c] 2 = some c := by rw [atI_nat' (j := 2) (by decide)]; rfl
def TX (x : Addr) : Addr → Prop := fun b => b = x
/-! ### what comes of a list of messages -/
inductive Wo where
  | fine | seen (i : Nat) | clash (i j : Nat)
def badAt (xs : List Dt) (i : Nat) : Prop := i = 50 ∨ ∃ x, xs[i]? = some x ∧ x.isMsg = false
def clAt (xs : List Dt) (i j : Nat) : Prop := ∃ x y, xs[i]? = some x ∧ xs[j]? = some y ∧ ((i = j ∧ x.ms.2.2 < x.ms.2.1) ∨ (i < j ∧ against x.ms y.ms = true))
def goodAll (xs : List Dt) : Prop := ∀ i, i < xs.length → ¬ badAt xs i
def Due (xs : List Dt) : Wo → Prop
  | .fine => goodAll xs ∧ ∀ i j, i ≤ j → ¬ clAt xs i j
  | .seen i => i < xs.length ∧ badAt xs i ∧ ∀ k, k < i → ¬ badAt xs k
  | .clash i j => goodAll xs ∧ i ≤ j ∧ j < xs.length ∧ clAt xs i j ∧ (∀ i' j', i' < i → i' ≤ j' → ¬ clAt xs i' j') ∧ ∀ j', i ≤ j' → j' < j → ¬ clAt xs i j'
theorem least {p : Nat → Prop} : ∀ n : Nat, p n → ∃ i, i ≤ n ∧ p i ∧ ∀ j, j < i → ¬ p j
  | 0, h => ⟨0, Nat.le_refl _, h, fun j hj => absurd hj (Nat.not_lt_zero _)⟩
  | n + 1, h => by
    by_cases e : ∃ m, m ≤ n ∧ p m
    · obtain ⟨m, hm, pm⟩ := e
      by_cases e2 : ∃ k, k ≤ n ∧ p k ∧ ∀ j, j < k → ¬ p j
      · obtain ⟨k, hk, z⟩ := e2
        exact ⟨k, by omega, z⟩
      · exfalso
        have all : ∀ k, ∀ j, j ≤ k → j ≤ n → ¬ p j := by
          intro k
          induction k with
          | zero =>
            intro j hj _ pj
            obtain rfl : j = 0 := by omega
            exact e2 ⟨0, by omega, pj, fun i hi => absurd hi (Nat.not_lt_zero _)⟩
          | succ k ih =>
            intro j hj hn pj
            exact e2 ⟨j, hn, pj, fun i hi => ih i (by omega) (by omega)⟩
        exact all n m hm hm pm
    · exact ⟨n + 1, Nat.le_refl _, h, fun j hj pj => e ⟨j, by omega, pj⟩⟩
theorem due_ex (xs : List Dt) : ∃ o, Due xs o := by
  by_cases b : ∃ i, i < xs.length ∧ badAt xs i
  · obtain ⟨n, hn, hb⟩ := b
    obtain ⟨i, hi, bi, h⟩ := least n hb
    exact ⟨.seen i, by omega, bi, h⟩
  have g : goodAll xs := fun i hi h => b ⟨i, hi, h⟩
  by_cases c : ∃ i, ∃ j, i ≤ j ∧ clAt xs i j
  · obtain ⟨n, hn⟩ := c
    obtain ⟨i, _, ⟨m, hm⟩, h⟩ := least (p := fun i => ∃ j, i ≤ j ∧ clAt xs i j) n hn
    obtain ⟨j, _, hj, h2⟩ := least (p := fun j => i ≤ j ∧ clAt xs i j) m hm
    have hjl : j < xs.length := by
      obtain ⟨x, y, _, e, _⟩ := hj.2
      exact (List.getElem?_eq_some_iff.mp e).1
    exact ⟨.clash i j, g, hj.1, hjl, hj.2, fun i' j' hi hle z => h i' hi ⟨j', hle, z⟩, fun j' h1 h3 z => h2 j' h3 ⟨h1, z⟩⟩
  · exact ⟨.fine, g, fun i j hij z => c ⟨i, j, hij, z⟩⟩
theorem good_len {xs : List Dt} (h : goodAll xs) : xs.length ≤ 50 := by
  by_cases c : 50 < xs.length
  · exact absurd (.inl rfl) (h 50 c)
  · omega
theorem good_at {xs : List Dt} (h : goodAll xs) {i : Nat} {x : Dt} (e : xs[i]? = some x) : x.isMsg = true := by
  cases z : x.isMsg with
  | true => rfl
  | false => exact absurd (.inr ⟨x, e, z⟩) (h i (List.getElem?_eq_some_iff.mp e).1)
def seenOut (K : PySem.W.Frag) (I H : Hp) (x : Addr) (vs : List V) (dx : Addr) (o : Wo) (Q : VK) (E : XK) : Prop := match o with
  | .fine => ∀ t I' H', Grow (TX x) I H I' H' → H' x = some (.ins (He.ga K "Seen") dx [("own_messages", .ref t)]) → I' t = some (.tup vs) → Q .non H'
  | .seen i => outF (He.ga K "NoSeen") [("at", .int (i : Nat))] E I H
  | .clash i j => outF (He.ga K "Clash") [("second", .int (j : Nat)), ("first", .int (i : Nat))] E I H
def sp_is_number (K : PySem.W.Frag) : Sp := fun vs H Q _ => ∃ (I : Hp) (v : V) (x : Dt), vs = [v] ∧ isE K I v x ∧ Same I H ∧ Q (.bl x.isNum) H
def sp_is_letter (K : PySem.W.Frag) : Sp := fun vs H Q _ => ∃ (I : Hp) (v : V) (x : Dt), vs = [v] ∧ isE K I v x ∧ Same I H ∧ Q (.bl x.isLet) H
def sp_is_message (K : PySem.W.Frag) : Sp := fun vs H Q _ => ∃ (I : Hp) (v : V) (x : Dt), vs = [v] ∧ isE K I v x ∧ Same I H ∧ Q (.bl x.isMsg) H
def sp_are_against (K : PySem.W.Frag) : Sp := fun vs H Q _ => ∃ (I : Hp) (v1 v2 : V) (m n : Ms), vs = [v1, v2] ∧ isMs I v1 m ∧ isMs I v2 n ∧ Same I H ∧ Q (.bl (against m n)) H
def sp_Seen__init (K : PySem.W.Frag) : Sp := fun _ _ _ _ => False
def spb_Seen__init (K : PySem.W.Frag) : Sp := fun vs H Q E => ∃ (I : Hp) (x dx : Addr) (v : V) (o : Wo) (ws : List V), vs = [.ref x, v] ∧ H x = some (.ins (He.ga K "Seen") dx []) ∧ I x = none ∧ Same I H ∧
  ((∃ d, isE K I v d ∧ (d.isLst || d.isTup) = false ∧ o = .seen 0) ∨ ∃ a t xs, v = .ref a ∧ a ≠ x ∧ H a = some (ho t ws) ∧ (t = true → I a = some (ho t ws)) ∧ Es K I ws xs ∧ xs.length ≤ 1000 ∧ Due xs o) ∧ seenOut K I H x ws dx o Q E
def sp_Seen_messages (K : PySem.W.Frag) : Sp := fun vs H Q _ => ∃ (a dx : Addr) (t : V), vs = [.ref a] ∧ H a = some (.ins (He.ga K "Seen") dx [("own_messages", t)]) ∧ Q t H
section
variable {P : Program} {w : World} {K : PySem.W.Frag} {mg : Str → Option Value} {base : Heap}
theorem ok_is_number (T : Txt K mg) (F : FnAt K "is_number" "is_number" s_is_number (He.ga K "is_number"))  : Ok P w K mg base CX0 1 (He.ga K "is_number") ["thing"] (sp_is_number K) := by
  refine ok_of F sc_is_number (fun _ _ _ _ _ _ us hl => match us, hl with | [_], _ => rfl) (fun vs H Q E h => ?_) (fun cdv A outer s H vs Q E hr h => ?_)
  · obtain ⟨_, _, _, rfl, _⟩ := h
    rfl
  · obtain ⟨I, v, x, rfl, hx, sb, k⟩ := h
    refine ⟨_, (pss_one (ps_ret (pe_and (pe_callB call_isi (by rfl) T.b_isinstance (by decide +kernel) (pa_cons (pv 0) (pa_cons (pe_bltn (v := .ty "int") rfl T.b_int (by decide +kernel) rfl) pa_nil))) (pe_one (pe_not (pe_callB call_isi (by rfl) T.b_isinstance (by decide +kernel) (pa_cons (pv 0) (pa_cons (pe_bltn (v := .ty "bool") rfl T.b_bool (by decide +kernel) rfl) pa_nil)))))))), ?_⟩
    obtain ⟨t, ty, ks⟩ := hx.ty sb
    refine ⟨_, rfl, v, .ty "int", _, _, _, rfl, .ty _, ty, ks.int, _, rfl, ?_⟩
    cases x with
    | int i => exact iteT ⟨_, rfl, v, .ty "bool", _, _, _, rfl, .ty _, ty, ks.bool, _, rfl, k⟩
    | bl b => exact iteT ⟨_, rfl, v, .ty "bool", _, _, _, rfl, .ty _, ty, ks.bool, _, rfl, k⟩
    | non => exact iteF k
    | str l => exact iteF k
    | sq t xs => exact iteF k
    | dic => exact iteF k
    | obj => exact iteF k
end
end Nw

namespace Nw
open PySem PySem.Spec PyProof.Rows L2
/-! ### moments -/
inductive Mom where
  | first
  | num (t : Int)
  | last
  deriving DecidableEq
def Mom.v : Mom → V
  | .first => .str "first"
  | .num t => .int t
  | .last => .str "last"
theorem fl_ne : ¬ (("first" : Str) = "last") := by decide +kernel
theorem Mom.v_inj : ∀ {a b : Mom}, a.v = b.v → a = b
  | .first, .first, _ => rfl
  | .last, .last, _ => rfl
  | .num t, .num u, h => by rw [V.int.inj h]
  | .first, .last, h => absurd (V.str.inj h) fl_ne
  | .last, .first, h => absurd (V.str.inj h).symm fl_ne
  | .first, .num _, h => nomatch h
  | .last, .num _, h => nomatch h
  | .num _, .first, h => nomatch h
  | .num _, .last, h => nomatch h
theorem Mom.eqv (a b : Mom) : decide (a.v = b.v) = decide (a = b) := by
  by_cases h : a = b
  · subst h; rw [decide_eq_true rfl, decide_eq_true rfl]
  · rw [decide_eq_false h, decide_eq_false fun z => h (Mom.v_inj z)]
theorem Mom.scal (a b : Mom) : scal a.v b.v = true := by cases a <;> cases b <;> rfl
theorem Mom.flat (a : Mom) : flatV a.v = true := by cases a <;> rfl
def Mom.lt : Mom → Mom → Bool
  | .last, _ => false
  | _, .first => false
  | .first, _ => true
  | _, .last => true
  | .num a, .num b => decide (a < b)
def Mom.isNum : Mom → Bool
  | .num _ => true
  | _ => false
instance : Rep Mom := ⟨fun _ v m => v = m.v, fun _ h => h⟩
def Mom.dt : Mom → Dt
  | .first => .str [102, 105, 114, 115, 116]
  | .last => .str [108, 97, 115, 116]
  | .num t => .int t
theorem Mom.isE {K : PySem.W.Frag} {I : Hp} : ∀ m : Mom, isE K I m.v m.dt
  | .first => .str [102, 105, 114, 115, 116] (by decide)
  | .last => .str [108, 97, 115, 116] (by decide)
  | .num _ => .int _
def Dt.isMom : Dt → Bool
  | .int _ => true
  | .str l => decide (l = [102, 105, 114, 115, 116] ∨ l = [108, 97, 115, 116])
  | _ => false
theorem Mom.is_dt : ∀ m : Mom, m.dt.isMom = true
  | .first => rfl
  | .last => rfl
  | .num _ => rfl
theorem in_mom (l : List Nat) : inV (.str (mk l)) [.str "first", .str "last"] = (Dt.str l).isMom := by
  have one : ∀ (z : Str) (w : List Nat), z = mk w → eqV (.str z) (.str (mk l)) = decide (l = w) := fun z w hz => by
    show (z == mk l) = _
    rw [Bool.eq_iff_iff, beq_iff_eq, decide_eq_true_iff, hz]
    exact ⟨fun h => (mk_inj h).symm, fun h => by rw [h]⟩
  unfold inV
  simp only [List.any_cons, List.any_nil]
  rw [one "first" [102, 105, 114, 115, 116] rfl, one "last" [108, 97, 115, 116] rfl]
  show _ = decide (l = [102, 105, 114, 115, 116] ∨ l = [108, 97, 115, 116])
  rw [Bool.eq_iff_iff]
  simp
/-- one error without fields goes out -/
def out0 (C : Addr) (E : XK) (I H : Hp) : Prop := ∀ I' H', Grow No I H I' H' → E (.ref C) none H'
def sp_is_moment (K : PySem.W.Frag) : Sp := fun vs H Q _ => ∃ (I : Hp) (v : V) (x : Dt), vs = [v] ∧ isE K I v x ∧ Same I H ∧ ∀ I' H', Grow No I H I' H' → Q (.bl x.isMom) H'
def sp_need_moment (K : PySem.W.Frag) : Sp := fun vs H Q _ => ∃ (I : Hp) (m : Mom), vs = [m.v] ∧ Same I H ∧ ∀ I' H', Grow No I H I' H' → Q .non H'
def spb_need_moment (K : PySem.W.Frag) : Sp := fun vs H _ E => ∃ (I : Hp) (v : V) (x : Dt), vs = [v] ∧ isE K I v x ∧ x.isMom = false ∧ Same I H ∧ out0 (He.ga K "NoMoment") E I H
/-! ### rows: what the program's functions do, as lists of signs -/
def stepsL : List Nat := [65, 66, 67, 68, 97, 98, 99, 100]
def isStep (c : Nat) : Bool := stepsL.contains c
def isRowL (l : List Nat) : Bool := decide (l.length ≤ 60) && l.all isStep
def low (c : Nat) : Bool := decide (97 ≤ c)
def cp (c : Nat) : Nat := if 97 ≤ c then c - 32 else c + 32
theorem step_cases {c : Nat} (h : isStep c = true) : c = 65 ∨ c = 66 ∨ c = 67 ∨ c = 68 ∨ c = 97 ∨ c = 98 ∨ c = 99 ∨ c = 100 := by
  simpa [isStep, stepsL] using h
theorem cp_step {c : Nat} (h : isStep c = true) : isStep (cp c) = true := by
  rcases step_cases h with rfl | rfl | rfl | rfl | rfl | rfl | rfl | rfl <;> rfl
theorem cp_cp {c : Nat} (h : isStep c = true) : cp (cp c) = c := by
  rcases step_cases h with rfl | rfl | rfl | rfl | rfl | rfl | rfl | rfl <;> rfl
theorem row_steps {l : List Nat} (h : isRowL l = true) : l.length ≤ 60 ∧ ∀ c ∈ l, isStep c = true := by
  simpa [isRowL, Bool.and_eq_true, decide_eq_true_eq, List.all_eq_true] using h
theorem in_steps (c : Nat) : decide (c ∈ ("ABCDabcd" : Str).cps.toList) = isStep c := by
  have e : ("ABCDabcd" : Str).cps.toList = stepsL := by decide +kernel
  rw [e]
  unfold isStep
  rw [Bool.eq_iff_iff, decide_eq_true_iff, List.contains_iff_mem]
theorem links_list : ("abcd" : Str).cps.toList = [97, 98, 99, 100] := by decide +kernel
theorem in_links {c : Nat} (h : isStep c = true) : decide (c ∈ ("abcd" : Str).cps.toList) = low c := by
  rw [links_list]
  rcases step_cases h with rfl | rfl | rfl | rfl | rfl | rfl | rfl | rfl <;> rfl
def Dt.isRow : Dt → Bool
  | .str l => isRowL l
  | _ => false
def sp_is_row (K : PySem.W.Frag) : Sp := fun vs H Q _ => ∃ (I : Hp) (v : V) (x : Dt), vs = [v] ∧ isE K I v x ∧ Same I H ∧ ∀ I' H', Grow No I H I' H' → Q (.bl x.isRow) H'
def sp_need_row (K : PySem.W.Frag) : Sp := fun vs H Q _ => ∃ (I : Hp) (l : List Nat), vs = [.str (mk l)] ∧ isRowL l = true ∧ Same I H ∧ ∀ I' H', Grow No I H I' H' → Q .non H'
def spb_need_row (K : PySem.W.Frag) : Sp := fun vs H _ E => ∃ (I : Hp) (v : V) (x : Dt), vs = [v] ∧ isE K I v x ∧ x.isRow = false ∧ Same I H ∧ out0 (He.ga K "NoRow") E I H
def sp_need_letter (K : PySem.W.Frag) : Sp := fun vs H Q _ => ∃ (I : Hp) (c : Nat), vs = [.str (sg c)] ∧ 97 ≤ c ∧ c ≤ 100 ∧ Same I H ∧ ∀ I' H', Grow No I H I' H' → Q .non H'
def spb_need_letter (K : PySem.W.Frag) : Sp := fun vs H _ E => ∃ (I : Hp) (v : V) (x : Dt), vs = [v] ∧ isE K I v x ∧ x.isLet = false ∧ Same I H ∧ outF (He.ga K "NoLink") [("letter", v)] E I H
theorem isE.strE {K : PySem.W.Frag} {I : Hp} {v : V} {l : List Nat} (h : isE K I v (.str l)) : v = .str (mk l) ∧ l.length ≤ 100000 := by
  cases h with
  | str _ h => exact ⟨rfl, h⟩
section
variable {P : Program} {w : World} {K : PySem.W.Frag} {mg : Str → Option Value} {base : Heap}
abbrev sp_NoLink__init (K : PySem.W.Frag) : Sp := spX1 K (He.ga K "NoLink") "letter"
theorem ok_NoLink__init (T : Txt K mg) (F : FnAt K "__init__" "NoLink.__init__" s_NoLink__init (He.ma K (He.ga K "NoLink") "__init__")) : Ok P w K mg base CX0 1 (He.ma K (He.ga K "NoLink") "__init__") ["self", "letter"] (spX1 K (He.ga K "NoLink") "letter") := by
  refine ok_of F sc_NoLink__init (fun _ _ _ _ _ _ us hl => match us, hl with | [_, _], _ => rfl) (fun vs H Q E h => ?_) (fun cdv A outer s H vs Q E hr h => ?_)
  · obtain ⟨_, _, rfl, _⟩ := h
    rfl
  · obtain ⟨a, v, rfl, ha, k⟩ := h
    exact ⟨_, (pss_cons (ps_expr (pe_oeinit T.oe T.g_OrderError (pa_cons (pv 0) (pa_cons pe_str pa_nil))))
      (pss_one (ps_ost (pv 0) (pv 1)))), _, rfl, a, _, _, rfl, by simp, T.xo_NoLink, ha, _, rfl, _, rfl, a, _, rfl, T.xo_NoLink, T.na_NoLink_letter, .inl ⟨ha, k⟩⟩
end
end Nw

namespace Nw
open PySem PySem.Spec PyProof.Rows L2
/-! ### bounds from messages -/
def isSeen (K : PySem.W.Frag) (I : Hp) (v : V) (ms : List Ms) : Prop := ∃ a dx t us, v = .ref a ∧ I a = some (.ins (He.ga K "Seen") dx [("own_messages", .ref t)]) ∧ I t = some (.tup us) ∧ Paired (isMs I) us ms
theorem isSeen.up {K : PySem.W.Frag} {I I' : Hp} {v : V} {ms : List Ms} (h : isSeen K I v ms) (e : Same I I') : isSeen K I' v ms := by
  obtain ⟨a, dx, t, us, h1, h2, h3, h4⟩ := h
  exact ⟨a, dx, t, us, h1, e _ _ h2, e _ _ h3, Paired.mono' (fun _ _ z => z.up e) h4⟩
def ridesL (ms : List Ms) (c : Nat) : List (Int × Int) := ms.filterMap fun m => if m.1 = c then some (m.2.1, m.2.2) else none
def maxL : Int → List Int → Int
  | t, [] => t
  | t, x :: l => maxL (max t x) l
def minL : Int → List Int → Int
  | t, [] => t
  | t, x :: l => minL (min t x) l
theorem maxL_mem : ∀ (l : List Int) (t : Int), maxL t l ∈ t :: l
  | [], t => List.mem_cons_self ..
  | x :: l, t => by
    have h := maxL_mem l (max t x)
    show maxL (max t x) l ∈ t :: x :: l
    rcases List.mem_cons.mp h with h | h
    · rw [h]
      rcases Int.le_total t x with z | z
      · rw [Int.max_eq_right z]; simp
      · rw [Int.max_eq_left z]; simp
    · exact List.mem_cons_of_mem _ (List.mem_cons_of_mem _ h)
theorem maxL_ge : ∀ (l : List Int) (t : Int), t ≤ maxL t l ∧ ∀ y ∈ l, y ≤ maxL t l
  | [], t => ⟨Int.le_refl _, fun _ h => nomatch h⟩
  | x :: l, t => by
    obtain ⟨h1, h2⟩ := maxL_ge l (max t x)
    refine ⟨Int.le_trans (Int.le_max_left ..) h1, fun y hy => ?_⟩
    rcases List.mem_cons.mp hy with rfl | hy
    · exact Int.le_trans (Int.le_max_right ..) h1
    · exact h2 y hy
theorem minL_mem : ∀ (l : List Int) (t : Int), minL t l ∈ t :: l
  | [], t => List.mem_cons_self ..
  | x :: l, t => by
    have h := minL_mem l (min t x)
    show minL (min t x) l ∈ t :: x :: l
    rcases List.mem_cons.mp h with h | h
    · rw [h]
      rcases Int.le_total t x with z | z
      · rw [Int.min_eq_left z]; simp
      · rw [Int.min_eq_right z]; simp
    · exact List.mem_cons_of_mem _ (List.mem_cons_of_mem _ h)
theorem minL_le : ∀ (l : List Int) (t : Int), minL t l ≤ t ∧ ∀ y ∈ l, minL t l ≤ y
  | [], t => ⟨Int.le_refl _, fun _ h => nomatch h⟩
  | x :: l, t => by
    obtain ⟨h1, h2⟩ := minL_le l (min t x)
    refine ⟨Int.le_trans h1 (Int.min_le_left ..), fun y hy => ?_⟩
    rcases List.mem_cons.mp hy with rfl | hy
    · exact Int.le_trans h1 (Int.min_le_right ..)
    · exact h2 y hy
theorem max_uniq {t M : Int} {l : List Int} (h : M ∈ t :: l) (g : ∀ y ∈ t :: l, y ≤ M) : M = maxL t l := by
  have h1 := g _ (maxL_mem l t)
  obtain ⟨h2, h3⟩ := maxL_ge l t
  have h4 : M ≤ maxL t l := by
    rcases List.mem_cons.mp h with rfl | h
    · exact h2
    · exact h3 _ h
  omega
theorem min_uniq {t M : Int} {l : List Int} (h : M ∈ t :: l) (g : ∀ y ∈ t :: l, M ≤ y) : M = minL t l := by
  have h1 := g _ (minL_mem l t)
  obtain ⟨h2, h3⟩ := minL_le l t
  have h4 : minL t l ≤ M := by
    rcases List.mem_cons.mp h with rfl | h
    · exact h2
    · exact h3 _ h
  omega
def numLate : List Int → Mom
  | [] => .last
  | e :: l => .num (minL e l)
def numEarly : List Int → Mom
  | [] => .first
  | b :: l => .num (maxL b l)
def endsF (rs : List (Int × Int)) : Mom → Mom × Mom
  | .num t => (.num (maxL t (rs.filterMap fun r => if r.1 ≤ t then some r.2 else none)), numLate (rs.filterMap fun r => if r.1 ≥ t then some r.2 else none))
  | m => (m, m)
def begF (rs : List (Int × Int)) : Mom → Mom × Mom
  | .num t => (numEarly (rs.filterMap fun r => if r.2 ≤ t then some r.1 else none), .num (minL t (rs.filterMap fun r => if r.2 > t then some (r.1 - 1) else none)))
  | m => (m, m)
def isMM (I : Hp) (v : V) (p : Mom × Mom) : Prop := ∃ t, v = .ref t ∧ I t = some (.tup [p.1.v, p.2.v])
theorem isMM.up {I I' : Hp} {v : V} {p : Mom × Mom} (h : isMM I v p) (e : Same I I') : isMM I' v p := let ⟨t, h1, h2⟩ := h; ⟨t, h1, e _ _ h2⟩
def sp_Seen_rides_of (K : PySem.W.Frag) : Sp := fun vs H Q _ => ∃ (I : Hp) (v : V) (ms : List Ms) (c : Nat), vs = [v, .str (sg c)] ∧ isSeen K I v ms ∧ ms.length ≤ 1000 ∧ Same I H ∧ ∀ v' I' H', Grow No I H I' H' → isL I' v' (ridesL ms c) → Q v' H'
def sp_Seen_ends_at (K : PySem.W.Frag) : Sp := fun vs H Q _ => ∃ (I : Hp) (v : V) (ms : List Ms) (c : Nat) (m : Mom), vs = [v, .str (sg c), m.v] ∧ isSeen K I v ms ∧ ms.length ≤ 1000 ∧ Same I H ∧ ∀ v' I' H', Grow No I H I' H' → isMM I' v' (endsF (ridesL ms c) m) → Q v' H'
def sp_Seen_begins_at (K : PySem.W.Frag) : Sp := fun vs H Q _ => ∃ (I : Hp) (v : V) (ms : List Ms) (c : Nat) (m : Mom), vs = [v, .str (sg c), m.v] ∧ isSeen K I v ms ∧ ms.length ≤ 1000 ∧ Same I H ∧ ∀ v' I' H', Grow No I H I' H' → isMM I' v' (begF (ridesL ms c) m) → Q v' H'
theorem rides_len (ms : List Ms) (c : Nat) : (ridesL ms c).length ≤ ms.length := List.length_filterMap_le _ _
theorem getI' {ns : List Int} {i : Nat} {x : V} (h : (ns.map V.int)[i]? = some x) : ∃ n, ns[i]? = some n ∧ x = .int n := by
  rw [List.getElem?_map] at h
  cases e : ns[i]? with
  | none => rw [e] at h; cases h
  | some n => rw [e] at h; exact ⟨n, rfl, (Option.some.inj h).symm⟩
section
variable {P : Program} {w : World} {K : PySem.W.Frag} {mg : Str → Option Value} {base : Heap}
end
end Nw

namespace Nw
open PySem PySem.Spec PyProof.Rows L2
/-! ### ends, begins, bounds: with their refusals -/
theorem lower_mk {l : List Nat} (h : ∀ c ∈ l, c < 128) : Txt.lower (mk l) = mk (l.map lo1) := by
  rw [lower_ascii (by rw [mk_cps]; exact h)]
  simp [mk]
theorem dec_mk (a b : List Nat) : decide (V.str (mk a) = V.str (mk b)) = decide (a = b) := by
  by_cases h : a = b
  · rw [h, decide_eq_true rfl, decide_eq_true rfl]
  · rw [decide_eq_false h, decide_eq_false fun z => h (mk_inj (V.str.inj z))]
def mixed (l : List Nat) : Bool := !decide (l.map lo1 = l) && !decide (l.map up1 = l)
def stepF (ms : List Ms) (p : Mom × Mom) (c : Nat) : Mom × Mom :=
  if low c = true then ((endsF (ridesL ms c) p.1).1, (endsF (ridesL ms c) p.2).2) else ((begF (ridesL ms (lo1 c)) p.1).1, (begF (ridesL ms (lo1 c)) p.2).2)
def boundsF (ms : List Ms) (l : List Nat) (m : Mom) : Mom × Mom := l.foldl (stepF ms) (m, m)
def sp_Seen_ends (K : PySem.W.Frag) : Sp := fun _ _ _ _ => False
def sp_Seen_begins (K : PySem.W.Frag) : Sp := fun _ _ _ _ => False
def sp_Seen_bounds (K : PySem.W.Frag) : Sp := fun _ _ _ _ => False
def askOut (K : PySem.W.Frag) (I H : Hp) (ms : List Ms) (l u : V) (F : List (Int × Int) → Mom → Mom × Mom) (Q : VK) (E : XK) : Prop :=
  (∃ c m, l = .str (sg c) ∧ 97 ≤ c ∧ c ≤ 100 ∧ u = Mom.v m ∧ ∀ v' I' H', Grow No I H I' H' → isMM I' v' (F (ridesL ms c) m) → Q v' H') ∨
  (∃ x, isE K I l x ∧ x.isLet = false ∧ outF (He.ga K "NoLink") [("letter", l)] E I H) ∨
  (∃ c x, l = .str (sg c) ∧ 97 ≤ c ∧ c ≤ 100 ∧ isE K I u x ∧ x.isMom = false ∧ out0 (He.ga K "NoMoment") E I H)
def spb_Seen_ends (K : PySem.W.Frag) : Sp := fun vs H Q E => ∃ (I : Hp) (v l u : V) (ms : List Ms), vs = [v, l, u] ∧ isSeen K I v ms ∧ ms.length ≤ 1000 ∧ Same I H ∧ askOut K I H ms l u endsF Q E
def spb_Seen_begins (K : PySem.W.Frag) : Sp := fun vs H Q E => ∃ (I : Hp) (v l u : V) (ms : List Ms), vs = [v, l, u] ∧ isSeen K I v ms ∧ ms.length ≤ 1000 ∧ Same I H ∧ askOut K I H ms l u begF Q E
def boundOut (K : PySem.W.Frag) (I H : Hp) (ms : List Ms) (r u : V) (Q : VK) (E : XK) : Prop :=
  (∃ l m, r = .str (mk l) ∧ isRowL l = true ∧ u = Mom.v m ∧ mixed l = false ∧ ∀ v' I' H', Grow No I H I' H' → isMM I' v' (boundsF ms l m) → Q v' H') ∨
  (∃ x, isE K I r x ∧ x.isRow = false ∧ out0 (He.ga K "NoRow") E I H) ∨
  (∃ l x, r = .str (mk l) ∧ isRowL l = true ∧ isE K I u x ∧ x.isMom = false ∧ out0 (He.ga K "NoMoment") E I H) ∨
  (∃ l m, r = .str (mk l) ∧ isRowL l = true ∧ u = Mom.v m ∧ mixed l = true ∧ out0 (He.ga K "NoMirror") E I H)
def spb_Seen_bounds (K : PySem.W.Frag) : Sp := fun vs H Q E => ∃ (I : Hp) (v r u : V) (ms : List Ms), vs = [v, r, u] ∧ isSeen K I v ms ∧ ms.length ≤ 1000 ∧ Same I H ∧ boundOut K I H ms r u Q E
theorem out0.grow {C : Addr} {E : XK} {I H I' H' : Hp} (k : out0 C E I H) (g : Grow No I H I' H') : out0 C E I' H' := fun I2 H2 g2 => k I2 H2 (g.trans g2)
theorem mm_at0 {a b : V} : atI [a, b] 0 = some a := by rw [atI_nat' (j := 0) (by decide)]; rfl
theorem mm_at1 {a b : V} : atI [a, b] 1 = some b := by rw [atI_nat' (j := 1) (by decide)]; rfl
theorem mirror_if {l : List Nat} {th R : TS} {D : Ends} {σ : L2.St} {H : Hp} (h128 : ∀ c ∈ l, c < 128) (h60 : l.length ≤ 60) (h1 : σ[1]? = some (some (.str (mk l)))) (hm : mixed l = false) (rest : R D σ H) :
    tSeq (tIfS (tAnd (tTest (tOp rNe (tM0 (fun x xs H Q => ∃ a, x = V.str a ∧ xs = [] ∧ a.length ≤ 5592405 ∧ Q (V.str (Txt.lower a)) H) (tVar 1)) (tVar 1)))
      (tTest (tOp rNe (tM0 (fun x xs H Q => ∃ a, x = V.str a ∧ xs = [] ∧ a.length ≤ 5592405 ∧ Q (V.str (Txt.upper a)) H) (tVar 1)) (tVar 1)))) th tNext) R D σ H := by
  have hb5 : (mk l).length ≤ 5592405 := by rw [mk_len]; omega
  refine ⟨_, h1, ⟨_, rfl⟩, _, rfl, rfl, hb5, _, h1, rfl, _, rfl, ?_⟩
  rw [lower_mk h128, dec_mk]
  by_cases c1 : l.map lo1 = l
  · rw [decide_eq_true c1]
    exact iteF (iteF rest)
  · have c2 : l.map up1 = l := by
      unfold mixed at hm
      rw [decide_eq_false c1] at hm
      by_cases c2 : l.map up1 = l
      · exact c2
      · rw [decide_eq_false c2] at hm
        cases hm
    rw [decide_eq_false c1]
    refine iteT ⟨_, h1, ⟨_, rfl⟩, _, rfl, rfl, hb5, _, h1, rfl, _, rfl, ?_⟩
    rw [upper_mk h128, dec_mk, decide_eq_true c2]
    exact iteF rest
section
variable {P : Program} {w : World} {K : PySem.W.Frag} {mg : Str → Option Value} {base : Heap}
end
end Nw

namespace Nw
open PySem PySem.Spec PyProof.Rows L2
section
variable {P : Program} {w : World} {K : PySem.W.Frag} {mg : Str → Option Value} {base : Heap}
theorem nn_mul {x y : Int} (hx : 0 ≤ x) (hy : 0 ≤ y) : 0 ≤ x * y := Int.mul_nonneg hx hy
theorem pow3_nn {x : Int} (h : 0 ≤ x) (n : Nat) : 0 ≤ x ^ n := Int.pow_nonneg h
theorem ok_l_next (T : Txt K mg) (F : FnAt K "_law_next" "_law_next" s_l_next (He.ga K "_law_next")) : Ok P w K mg base CX0 1 (He.ga K "_law_next") ["_law_draw", "_law_many"] spNext := by
  refine ok_of F sc_l_next (fun _ _ _ _ _ _ us hl => match us, hl with | [_, _], _ => rfl) (fun vs H Q E h => ?_) (fun cdv A outer s H vs Q E hr h => ?_)
  · obtain ⟨_, _, _, _, rfl, _⟩ := h
    rfl
  · obtain ⟨I, D, n, many, rfl, hD, hm0, hm1, hn, k⟩ := h
    refine ⟨_, pss_mid (ps_while PassesOwn.never (PW.pt (pw_and (pt_cmpR op_eq (pe_dget (hu_of hr) (pv 0) pe_str (fun _ _ => rfl)) pe_int (nomark _)) (pw_and1 (pt_cmpR (op_neNil hr.units) (pe_dget (hu_of hr) (pv 0) pe_str (fun _ _ => rfl)) (pe_lst pa_nil) (nomark _))))) (pss_one (ps_dput (hu_of hr) (pv 0) pe_str (pe_bm PySem.F.plainAttrs_list PySem.F.slot_list_pop PySem.F.type_list_pop mt_popAt (pe_dget (hu_of hr) (pv 0) pe_str (fun _ _ => rfl)) (pa_cons pe_int pa_nil)) rfl)))
      (pss_cons (ps_if (pt_cmpR op_gt (pe_dget (hu_of hr) (pv 0) pe_str (fun _ _ => rfl)) pe_int (nomark _)) (pss_cons (ps_set (i := 2) sc_l_next.nd rfl (Or.inl rfl) (pe_op op_mod (pe_callTy call_int1 (by rfl) T.b_int (by decide +kernel) (pa_cons (pe_dget (hu_of hr) (pv 0) pe_str (fun _ _ => rfl)) pa_nil)) (pv 1)))
      (pss_cons (ps_dput (hu_of hr) (pv 0) pe_str (pe_op op_fdiv (pe_dget (hu_of hr) (pv 0) pe_str (fun _ _ => rfl)) (pv 1)) rfl)
      (pss_one (ps_ret (pv 2))))) pss_nil)
      (pss_cons (ps_daug (hu_of hr) (pv 0) pe_str pe_int in_add (fun _ _ _ => rfl))
      (pss_cons (ps_set (i := 3) sc_l_next.nd rfl (Or.inl rfl) (pe_dget (hu_of hr) (pv 0) pe_str (fun _ _ => rfl)))
      (pss_cons (ps_set (i := 4) sc_l_next.nd rfl (Or.inl rfl) pe_int)
      (pss_mid (ps_if (pt_cmpR (op_neNil hr.units) (pe_dget (hu_of hr) (pv 0) pe_str (fun _ _ => rfl)) (pe_lst pa_nil) (nomark _)) (pss_one (ps_set (i := 4) sc_l_next.nd rfl (Or.inl rfl) (pe_ix ix_list (pe_dget (hu_of hr) (pv 0) pe_str (fun _ _ => rfl)) (pe_op op_mod (pe_callTy call_int1 (by rfl) T.b_int (by decide +kernel) (pa_cons (pv 3) pa_nil)) (pe_callB call_len_seq (by rfl) T.b_len (by decide +kernel) (pa_cons (pe_dget (hu_of hr) (pv 0) pe_str (fun _ _ => rfl)) pa_nil))) (fun _ _ => rfl)))) pss_nil)
      (pss_cons (ps_set (i := 5) sc_l_next.nd rfl (Or.inl rfl) (pe_op op_mod (pe_callTy call_int1 (by rfl) T.b_int (by decide +kernel) (pa_cons (pe_op op_pow (pe_op op_add (pe_op op_mod (pe_callTy call_int1 (by rfl) T.b_int (by decide +kernel) (pa_cons (pv 4) pa_nil)) pe_int) (pe_op op_mul pe_int (pv 3))) pe_int) pa_nil)) pe_int))
      (pss_one (ps_ret (pe_op op_mod (pe_callTy call_int1 (by rfl) T.b_int (by decide +kernel) (pa_cons (pe_op op_fdiv (pe_op op_mod (pe_callTy call_int1 (by rfl) T.b_int (by decide +kernel) (pa_cons (pe_op op_pow (pe_op op_add (pv 5) (pe_op op_mul pe_int (pv 3))) pe_int) pa_nil)) pe_int) pe_int) pa_nil)) (pv 1)))))))))), ?_⟩
    obtain ⟨dig0, tn, gs0, ls, s0, hd0, ht0, htn, hg0, hl0⟩ := hD.ex
    -- the while: the rest of the great numbers falls
    refine ⟨fun σ H2 => ∃ (dig : Int) (gs : List Int), σ = [some (.ref D.d), some (.int many), none, none, none, none] ∧ DrS D dig tn gs ls I H2 ∧ 0 ≤ dig ∧ (∀ g ∈ gs, 0 ≤ g) ∧ Grow (TD D) I H I H2, ?_, ?_⟩
    · refine ⟨fun m σ H' => ∃ (dig : Int) (gs : List Int), m = gs.length ∧ σ = [some (.ref D.d), some (.int many), none, none, none, none] ∧ DrS D dig tn gs ls I H' ∧ 0 ≤ dig ∧ (∀ g ∈ gs, 0 ≤ g) ∧ Grow (TD D) I H I H',
        ⟨_, dig0, gs0, rfl, rfl, s0, hd0, hg0, Grow.refl s0.sub⟩, ?_⟩
      rintro m σ H1 ⟨dig, gs, rfl, rfl, s1, hd1, hg1, G1⟩
      refine ⟨_, rfl, D.d, _, rfl, s1.get_dig, rfl, _, rfl, ?_⟩
      by_cases c : dig = 0
      · subst c
        rw [decide_eq_true rfl]
        refine iteT ⟨_, rfl, D.d, _, rfl, s1.get_great, by decide, fun p hp => ⟨D.g, p, _, rfl, rfl, SqL.of (by rw [upd_ne (ne_of_none s1.hg hp)]; exact s1.hg), SqL.of upd_same, _, rfl, ?_⟩⟩
        have G2 : Grow (TD D) I H I (upd H1 p (.lst [])) := G1.trans (Grow.mine G1.sub hp)
        have s2 : DrS D 0 tn gs ls I (upd H1 p (.lst [])) := s1.put (fun t => s1.live p t hp) (G1.sub.free hp)
        cases gs with
        | nil => exact ⟨0, [], rfl, s2, hd1, hg1, G2⟩
        | cons g r =>
          refine ⟨fun σ' H' => ∃ (dig : Int), σ' = [some (.ref D.d), some (.int many), none, none, none, none] ∧ DrS D dig tn r ls I H' ∧ 0 ≤ dig ∧ (∀ g ∈ r, 0 ≤ g) ∧ Grow (TD D) I H I H', fun σ' H' ⟨dig, e, a⟩ => ⟨r.length, Nat.lt_succ_self _, dig, r, rfl, e, a⟩, ?_⟩
          refine ⟨_, rfl, D.d, _, rfl, s2.get_great, .inl ⟨rfl, _, SqL.of s2.hg⟩, D.g, _, 0, 0, _, rfl, rfl, s2.hg, by decide, by decide, by simp [seqIndex?], rfl, ?_⟩
          have G3 := s2.gg (o := .lst (r.map V.int)) G2
          have s3 : DrS D 0 tn r ls I (upd (upd H1 p (.lst [])) D.g (.lst (r.map V.int))) := s2.up G3.sub (by rw [upd_ne s1.dg]; exact s2.hd) upd_same (by rw [upd_ne s1.gl.symm]; exact s2.hl)
          refine ⟨_, rfl, D.d, _, rfl, s3.put_dig, g, rfl, ?_, hg1 g (List.mem_cons_self ..), fun x hx => hg1 x (List.mem_cons_of_mem _ hx), s3.gd G3⟩
          exact s3.up (s3.gd G3).sub upd_same (by rw [upd_ne s1.dg.symm]; exact s3.hg) (by rw [upd_ne s1.dl.symm]; exact s3.hl)
      · rw [decide_eq_false (fun z => c (V.int.inj z))]
        exact iteF ⟨dig, gs, rfl, s1, hd1, hg1, G1⟩
    · rintro σ H1 ⟨dig, gs, rfl, s1, hd1, hg1, G1⟩
      refine ⟨_, rfl, D.d, _, rfl, s1.get_dig, _, _, rfl, rfl, _, rfl, ?_⟩
      by_cases c : 0 < dig
      · rw [decide_eq_true c]
        refine iteT ⟨_, rfl, D.d, _, rfl, s1.get_dig, .inl ⟨_, rfl, _, rfl, _, _, rfl, rfl, hm0, ?_⟩⟩
        refine ⟨_, rfl, D.d, _, rfl, s1.get_dig, _, rfl, _, _, rfl, rfl, ⟨hm0, hm1⟩, _, rfl, D.d, _, rfl, s1.put_dig, _, rfl, ?_⟩
        refine k _ _ (Int.emod_nonneg _ (Int.ne_of_gt hm0)) (Int.emod_lt_of_pos _ hm0) (s1.gd G1) ⟨dig / many, tn, gs, ls, ?_, Int.ediv_nonneg hd1 (Int.le_of_lt hm0), ht0, by omega, hg1, hl0⟩
        exact s1.up (s1.gd G1).sub upd_same (by rw [upd_ne s1.dg.symm]; exact s1.hg) (by rw [upd_ne s1.dl.symm]; exact s1.hl)
      · rw [decide_eq_false c]
        refine iteF ?_
        -- the turn
        have G2 := s1.gd (o := .dK (drK D dig (tn + 1))) G1
        have s2 : DrS D dig (tn + 1) gs ls I (upd H1 D.d (.dK (drK D dig (tn + 1)))) := s1.up G2.sub upd_same (by rw [upd_ne s1.dg.symm]; exact s1.hg) (by rw [upd_ne s1.dl.symm]; exact s1.hl)
        refine ⟨_, rfl, D.d, _, rfl, s1.get_turn, _, _, rfl, rfl, _, s1.put_turn, ?_⟩
        refine ⟨_, rfl, D.d, _, rfl, s2.get_turn, ?_⟩
        -- a lump
        have ht1 : 0 ≤ tn + 1 := by omega
        refine ⟨fun σ H2 => ∃ (lump : Int), σ = [some (.ref D.d), some (.int many), none, some (.int (tn + 1)), some (.int lump), none] ∧ 0 ≤ lump ∧ DrS D dig (tn + 1) gs ls I H2 ∧ Grow (TD D) I H I H2, ?_, ?_⟩
        · refine ⟨_, rfl, D.d, _, rfl, s2.get_lumps, by decide, fun p hp => ⟨D.l, p, _, rfl, rfl, SqL.of (by rw [upd_ne (ne_of_none s2.hl hp)]; exact s2.hl), SqL.of upd_same, _, rfl, ?_⟩⟩
          have G3 : Grow (TD D) I H I (upd (upd H1 D.d (.dK (drK D dig (tn + 1)))) p (.lst [])) := G2.trans (Grow.mine G2.sub hp)
          have s3 : DrS D dig (tn + 1) gs ls I (upd (upd H1 D.d (.dK (drK D dig (tn + 1)))) p (.lst [])) := s2.put (fun t => s2.live p t hp) (G2.sub.free hp)
          cases ls with
          | nil => exact ⟨0, rfl, Int.le_refl 0, s3, G3⟩
          | cons l0 lr =>
            have hpos : (0 : Int) < ((List.map V.int (l0 :: lr)).length : Int) := by simp only [List.map_cons, List.length_cons]; omega
            have hi0 := Int.emod_nonneg (tn + 1) (Int.ne_of_gt hpos)
            have hi1 := Int.emod_lt_of_pos (tn + 1) hpos
            have hlt : ((tn + 1) % ((List.map V.int (l0 :: lr)).length : Int)).toNat < (l0 :: lr).length := by
              have e : (List.map V.int (l0 :: lr)).length = (l0 :: lr).length := List.length_map ..
              rw [e] at hi0 hi1 ⊢
              omega
            refine ⟨_, rfl, D.d, _, rfl, s3.get_lumps, _, rfl, .inl ⟨_, rfl, _, rfl, D.d, _, rfl, s3.get_lumps, D.l, _, rfl, .inl (SqL.of s3.hl), ?_⟩⟩
            refine ⟨_, _, rfl, rfl, hpos, D.l, _, _, .int ((l0 :: lr)[((tn + 1) % ((List.map V.int (l0 :: lr)).length : Int)).toNat]'hlt), rfl, rfl, SqL.of s3.hl, ?_, ?_⟩
            · have e : (tn + 1) % ((List.map V.int (l0 :: lr)).length : Int) = (((tn + 1) % ((List.map V.int (l0 :: lr)).length : Int)).toNat : Int) := (Int.toNat_of_nonneg hi0).symm
              refine at_of e ?_
              rw [List.getElem?_map, List.getElem?_eq_getElem hlt]
              rfl
            · exact ⟨_, rfl, hl0 _ (List.getElem_mem hlt), s3, G3⟩
        · rintro σ H2 ⟨lump, rfl, hlump, s3, G3⟩
          have hb : tn + 1 ≤ 1099511627776 := by
            have q : n < 1099511627776 := hn
            omega
          have m0 := Int.emod_nonneg lump (show (2147483629 : Int) ≠ 0 by decide)
          have m1 := Int.emod_lt_of_pos lump (show (0 : Int) < 2147483629 by decide)
          refine ⟨_, rfl, .inl ⟨_, rfl, _, _, rfl, rfl, (by show (0 : Int) < 2147483629; decide), _, rfl, _, _, rfl, rfl, .inl ⟨by decide, by decide⟩, ?_⟩⟩
          refine ⟨_, _, rfl, rfl, _, _, rfl, rfl, ⟨by decide, by decide, ?_⟩, .inl ⟨_, rfl, _, _, rfl, rfl, (by show (0 : Int) < 2147483647; decide), ?_⟩⟩
          · omega
          have q0 : (0 : Int) ≤ (lump % 2147483629 + 40009 * (tn + 1)) ^ (3 : Int).toNat % 2147483647 := Int.emod_nonneg _ (by decide)
          have q1 : (lump % 2147483629 + 40009 * (tn + 1)) ^ (3 : Int).toNat % 2147483647 < 2147483647 := Int.emod_lt_of_pos _ (by decide)
          revert q0 q1
          generalize (lump % 2147483629 + 40009 * (tn + 1)) ^ (3 : Int).toNat % 2147483647 = mixed
          intro q0 q1
          refine ⟨_, rfl, _, rfl, _, _, rfl, rfl, .inl ⟨by decide, by decide⟩, ?_⟩
          refine ⟨_, _, rfl, rfl, _, _, rfl, rfl, ⟨by decide, by decide, by omega⟩, .inl ⟨_, rfl, _, _, rfl, rfl, (by show (0 : Int) < 2147483629; decide), _, _, rfl, rfl, ⟨by decide, by decide⟩, .inl ⟨_, rfl, ?_⟩⟩⟩
          refine ⟨_, rfl, _, _, rfl, rfl, hm0, ?_⟩
          exact k _ _ (Int.emod_nonneg _ (Int.ne_of_gt hm0)) (Int.emod_lt_of_pos _ hm0) G3 ⟨dig, tn + 1, gs, ls, s3, hd1, ht1, by omega, hg1, hl0⟩

theorem getI0 {ns : List Int} {i : Nat} {v : V} (h : (ns.map V.int)[i]? = some v) : ∃ k, ns[i]? = some k ∧ v = .int k := by
  rw [List.getElem?_map] at h
  cases e : ns[i]? with
  | none => rw [e] at h; cases h
  | some k => rw [e] at h; exact ⟨k, rfl, (Option.some.inj h).symm⟩
/-- the source of draws of a script -/
def spBegun (K : PySem.W.Frag) : Sp := fun vs H Q _ => ∃ (I : Hp) (a : Addr) (ns : List Int), vs = [.ref a] ∧ Same I H ∧ SqL K I a (ns.map V.int) ∧ ns.length ≤ 63 ∧
  ∀ (D : DA) (I' H' : Hp), Grow No I H I' H' → Drw D 0 I' H' → Q (.ref D.d) H'
theorem abs_nn (i : Int) : 0 ≤ (if i < 0 then -i else i) := by split <;> omega
theorem ok_l_begun (T : Txt K mg) (F : FnAt K "_law_begun" "_law_begun" s_l_begun (He.ga K "_law_begun")) : Ok P w K mg base CX0 1 (He.ga K "_law_begun") ["_law_script"] (spBegun K) := by
  refine ok_of F sc_l_begun (fun _ _ _ _ _ _ us hl => match us, hl with | [_], _ => rfl) (fun vs H Q E h => ?_) (fun cdv A outer s H vs Q E hr h => ?_)
  · obtain ⟨_, _, _, rfl, _⟩ := h
    rfl
  · obtain ⟨I, a, ns, rfl, sb, hS, hl, k⟩ := h
    refine ⟨_, (pss_cons (ps_setLc (i := 1) (own := [("_law_lump", 2)]) (g := (gName 2)) rfl sc_l_begun.nd rfl rfl (sw_true rfl rfl rfl (by decide +kernel)) (pi_list (pv 0)) (blkOk_by (own := [("_law_lump", 2)]) (N := n_l_begun) (sc := defScope s_l_begun) (by decide +kernel)) (fun _ _ _ _ _ => (pg_name (i := 2) sc_l_begun.nd rfl (Or.inl rfl))) (fun _ _ _ _ _ => (pts_one (pt_cmpR op_ge (pe_callB call_abs (by rfl) T.b_abs (by decide +kernel) (pa_cons (pv 2) pa_nil)) (pe_op op_pow pe_int pe_int) (nomark _)))) (fun _ _ _ _ _ => (pe_op op_fdivW (pe_callB call_abs (by rfl) T.b_abs (by decide +kernel) (pa_cons (pv 2) pa_nil)) (pe_op op_pow pe_int pe_int))))
      (pss_one (ps_ret (pe_disp (pps_cons pe_str pe_int (pps_cons pe_str (pv 1) (pps_cons pe_str (pe_lc (own := [("_law_lump", 2)]) (g := (gName 2)) rfl sc_l_begun.nd (pi_list (pv 0)) (blkOk_by (own := [("_law_lump", 2)]) (N := n_l_begun) (sc := defScope s_l_begun) (by decide +kernel)) (fun _ _ _ _ _ => (pg_name (i := 2) sc_l_begun.nd rfl (Or.inl rfl))) (fun _ _ _ _ _ => pts_nil) (fun _ _ _ _ _ => (pe_op op_mod (pe_callTy call_int1 (by rfl) T.b_int (by decide +kernel) (pa_cons (pe_callB call_abs (by rfl) T.b_abs (by decide +kernel) (pa_cons (pv 2) pa_nil)) pa_nil)) (pe_op op_pow pe_int pe_int)))) (pps_cons pe_str pe_int pps_nil)))) (by rfl) (by rfl) (fun z => by cases z) (by decide))))), ?_⟩
    have hS1 : SqL K H a (ns.map V.int) := sb.seq hS
    refine ⟨_, rfl, a, rfl, ⟨_, hS1⟩, fun L hL => ?_⟩
    refine lc_gen (T := No) (I := I) (β := Int) (walk_list (K := K) (a := a) (xs := ns.map V.int)) (fun _ _ _ => True) (fun _ => Stable.triv) sb (fun _ z => z.elim) hL trivial (by rw [List.length_map]; omega) (fun i I' H' g _ => g.same.seq hS1)
      (fun _ o => ∀ y, o = some y → 0 ≤ y) ?_ ?_
    · rintro i x I' H' H'' hi g _ ⟨rfl, hx⟩ Kn Ky kn ky
      obtain ⟨z, hz, rfl⟩ := getI0 hx
      refine ⟨rfl, _, rfl, _, rfl, _, _, rfl, rfl, ⟨by decide, by decide, by decide⟩, _, _, rfl, rfl, _, rfl, ?_⟩
      refine ite2 (fun _ => ?_) (fun _ => kn (fun y e => nomatch e) I' H'' (Grow.refl g.sub) trivial)
      refine ⟨_, rfl, _, rfl, _, _, rfl, rfl, ⟨by decide, by decide, by decide⟩, _, _, rfl, rfl, ⟨by decide, by decide⟩, ?_⟩
      exact ky _ (fun y e => by cases e; exact Int.ediv_nonneg (abs_nn z) (by decide)) _ I' H'' (Grow.refl g.sub) trivial rfl
    · intro os I1 H1 vs' hlen hP g1 _ ow hp
      have hg : ∀ z ∈ os.filterMap id, (0 : Int) ≤ z := fun z hz => by
        obtain ⟨o, ho, e⟩ := List.mem_filterMap.mp hz
        obtain ⟨j, hj, e2⟩ := List.mem_iff_getElem.mp ho
        exact hP j o (by rw [List.getElem?_eq_getElem hj, e2]) z e
      have e1 := Paired.ints hp
      subst e1
      -- the dict, with the second list made within its display
      intro p hp1
      have G2 := g1.trans (Grow.mine (o := .dK []) g1.sub hp1)
      have ow2 := ow.grow (Grow.mine (T := No) (o := .dK []) g1.sub hp1)
      have op : Own No H p (.dK []) I1 (upd H1 p (.dK [])) := Own.new g1.sub (.inr g1.live) (fun _ z => z.elim) hp1
      have npL : p ≠ L := (ne_of_none ow.at_ hp1).symm
      refine ⟨_, rfl, _, rfl, a, rfl, ⟨_, G2.same.seq hS1⟩, fun M hM => ?_⟩
      refine lc_gen (T := No) (I := I1) (β := Int) (walk_list (K := K) (a := a) (xs := ns.map V.int)) (fun _ _ _ => True) (fun _ => Stable.triv) G2.sub (fun _ z => z.elim) hM trivial (by rw [List.length_map]; omega) (fun i I' H' g _ => g.same.seq (G2.same.seq hS1))
        (fun _ o => ∀ y, o = some y → 0 ≤ y) ?_ ?_
      · rintro i x I' H' H'' hi g _ ⟨rfl, hx⟩ Kn Ky kn ky
        obtain ⟨z, hz, rfl⟩ := getI0 hx
        refine ⟨rfl, lc_yes ?_⟩
        refine ⟨_, rfl, _, rfl, .inl ⟨_, rfl, _, _, rfl, rfl, ⟨by decide, by decide, by decide⟩, _, _, rfl, rfl, (by show (0 : Int) < 10 ^ Int.toNat 18; decide), ?_⟩⟩
        exact ky _ (fun y e => by cases e; exact Int.emod_nonneg _ (by decide)) _ I' H'' (Grow.refl g.sub) trivial rfl
      · intro os2 I2 H2 vs2 hlen2 hP2 g2 _ owM hp2
        have hl2 : ∀ z ∈ os2.filterMap id, (0 : Int) ≤ z := fun z hz => by
          obtain ⟨o, ho, e⟩ := List.mem_filterMap.mp hz
          obtain ⟨j, hj, e2⟩ := List.mem_iff_getElem.mp ho
          exact hP2 j o (by rw [List.getElem?_eq_getElem hj, e2]) z e
        have e2 := Paired.ints hp2
        subst e2
        have ow3 := ow2.grow g2
        have op3 := op.grow g2
        have nML : M ≠ L := (ne_of_none ow2.at_ hM).symm
        have nMp : M ≠ p := (ne_of_none op.at_ hM).symm
        refine ⟨op3.at_, [(.inr "digits", .int 0), (.inr "great", .ref L), (.inr "lumps", .ref M), (.inr "turn", .int 0)], rfl, (by show 4 ≤ 15; decide), ?_⟩
        have em : mergeK [] [((.inr "digits" : Key), V.int 0), ((.inr "great" : Key), V.ref L), ((.inr "lumps" : Key), V.ref M), ((.inr "turn" : Key), V.int 0)] = drK ⟨p, L, M⟩ 0 0 := merge_nodup (show ([(.inr "digits" : Key), .inr "great", .inr "lumps", .inr "turn"]).Nodup by decide +kernel)
        rw [em]
        have opg : Own No H p (.dK []) I2 H2 := op3
        have G4 : Grow No I H I2 (upd H2 p (.dK (drK ⟨p, L, M⟩ 0 0))) := (G2.trans g2).put opg
        refine k ⟨p, L, M⟩ I2 _ G4 ⟨0, 0, _, _, ⟨?_, ?_, ?_, ?_, npL, nMp.symm, nML.symm, upd_same, by rw [upd_ne npL.symm]; exact ow3.at_, by rw [upd_ne nMp]; exact owM.at_⟩, Int.le_refl 0, Int.le_refl 0, Int.le_refl 0, hg, hl2⟩
        · exact G4.sub
        · exact op3.ni
        · exact ow3.ni
        · exact owM.ni
end
end Nw

namespace Nw
open PySem PySem.Spec PyProof.Rows L2
/-! ### draws of the law: a pick, a drawn order of any things -/
abbrev sp_l_next (K : PySem.W.Frag) : Sp := spNext
abbrev sp_l_begun (K : PySem.W.Frag) : Sp := spBegun K
def sp_l_pick (K : PySem.W.Frag) : Sp := fun vs H Q _ => ∃ (I : Hp) (D : DA) (n : Nat) (v : V), vs = [.ref D.d, v] ∧ Drw D n I H ∧ n < lim ∧
  ((∃ p xs, v = .ref p ∧ ¬ TD D p ∧ H p = some (.lst xs) ∧ xs ≠ [] ∧ xs.length ≤ 1000000 ∧ ∀ (j : Nat) x H', xs[j]? = some x → Grow (TD D) I H I H' → Drw D (n + 1) I H' → Q x H') ∨
   (∃ l, v = .str (mk l) ∧ l ≠ [] ∧ l.length ≤ 1000000 ∧ ∀ (j : Nat) c H', l[j]? = some c → Grow (TD D) I H I H' → Drw D (n + 1) I H' → Q (.str (sg c)) H'))
theorem atI_of {α : Type} {xs : List α} {r : Int} (h0 : 0 ≤ r) (h1 : r < xs.length) : ∃ x, xs[r.toNat]? = some x ∧ atI xs r = some x := by
  have hlt : r.toNat < xs.length := by omega
  refine ⟨xs[r.toNat], List.getElem?_eq_getElem hlt, ?_⟩
  rw [atI_nat' (j := r.toNat) (by omega)]
  exact List.getElem?_eq_getElem hlt
abbrev sgs (l : List Nat) : List V := l.map fun c => V.str (sg c)
def sp_l_shuffled (K : PySem.W.Frag) : Sp := fun vs H Q _ => ∃ (α : Type) (f : α → V) (I : Hp) (D : DA) (n : Nat) (p : Addr) (l : List α), vs = [.ref D.d, .ref p] ∧ Drw D n I H ∧ n + l.length < lim ∧ l.length ≤ 1000 ∧ SqL K H p (l.map f) ∧
  ∀ (l' : List α) q I' H', l'.Perm l → Grow (TD D) I H I' H' → Drw D (n + l.length) I' H' → I' q = some (.lst (l'.map f)) → Q (.ref q) H'
def sp_l_some (K : PySem.W.Frag) : Sp := fun vs H Q _ => ∃ (I : Hp) (D : DA) (n many : Nat), vs = [.ref D.d, .int many] ∧ Drw D n I H ∧ n + 5 < lim ∧ 1 ≤ many ∧ many ≤ 1000 ∧
  ∀ (l : List Nat) I' H', l.Nodup → (∀ c ∈ l, 97 ≤ c ∧ c ≤ 100) → l ≠ [] → l.length ≤ many → Grow (TD D) I H I' H' → Drw D (n + 5) I' H' → Q (.str (mk l)) H'
theorem cut_take (xs : List V) (k : Nat) : cutV xs none (some (k : Int)) = xs.take k := by
  unfold cutV HT.sIx
  simp only [List.drop_zero, Nat.sub_zero]
  by_cases h : k ≤ xs.length
  · congr 1
    rw [if_neg (by omega)]
    omega
  · rw [List.take_of_length_le (by omega : xs.length ≤ k)]
    apply List.take_of_length_le
    rw [if_neg (by omega)]
    omega
theorem idx_of {k : Int} {n : Nat} (h0 : 0 ≤ k) (hn : k < n) : seqIndex? k n = some k.toNat := by
  unfold seqIndex?
  split <;> simp_all
  all_goals omega
theorem perm_erase {α : Type} : ∀ {l : List α} {i : Nat} (h : i < l.length), (l[i] :: l.eraseIdx i).Perm l
  | [], _, h => absurd h (Nat.not_lt_zero _)
  | _ :: _, 0, _ => List.Perm.refl _
  | x :: r, i + 1, h => by
    show ((r[i]'(Nat.lt_of_succ_lt_succ h)) :: x :: r.eraseIdx i).Perm (x :: r)
    exact (List.Perm.swap _ _ _).trans ((perm_erase (Nat.lt_of_succ_lt_succ h)).cons x)
theorem map_erase {α β : Type} (f : α → β) : ∀ (l : List α) (i : Nat), (l.map f).eraseIdx i = (l.eraseIdx i).map f
  | [], _ => rfl
  | _ :: _, 0 => rfl
  | x :: r, i + 1 => congrArg (f x :: ·) (map_erase f r i)
section
variable {P : Program} {w : World} {K : PySem.W.Frag} {mg : Str → Option Value} {base : Heap}
theorem ok_l_pick (T : Txt K mg) (F : FnAt K "_law_pick" "_law_pick" s_l_pick (He.ga K "_law_pick")) (G_l_next : Ok P w K mg base CX0 1 (He.ga K "_law_next") ["_law_draw", "_law_many"] (sp_l_next K)) : Ok P w K mg base CX0 2 (He.ga K "_law_pick") ["_law_draw", "_law_some_here"] (sp_l_pick K) := by
  refine ok_of F sc_l_pick (fun _ _ _ _ _ _ us hl => match us, hl with | [_, _], _ => rfl) (fun vs H Q E h => ?_) (fun cdv A outer s H vs Q E hr h => ?_)
  · obtain ⟨_, _, _, _, rfl, _⟩ := h
    rfl
  · obtain ⟨I, D, n, v, rfl, dr, hn, k⟩ := h
    refine ⟨_, (pss_one (ps_ret (pe_ix ix_seq (pv 1) (pe_callC G_l_next (hr.mono (by decide)) T.g__law_next (pa_cons (pv 0) (pa_cons (pe_callB call_len (by rfl) T.b_len (by decide +kernel) (pa_cons (pv 1) pa_nil)) pa_nil))) (fun _ _ => rfl)))), ?_⟩
    rcases k with ⟨p, xs, rfl, ht, hp, hne, hz, k⟩ | ⟨l, rfl, hne, hz, k⟩
    · have hpos : 0 < xs.length := List.length_pos_iff.mpr hne
      refine ⟨_, rfl, _, rfl, _, rfl, _, _, rfl, .inl ⟨xs, SqL.of hp, rfl⟩, I, D, n, _, rfl, dr, by omega, by omega, hn, fun r H' h0 h1 g d => ?_⟩
      obtain ⟨x, e1, e2⟩ := atI_of h0 h1
      exact .inl ⟨p, xs, r, x, rfl, rfl, SqL.of (g.keep p _ ht hp), e2, k _ x H' e1 g d⟩
    · have hpos : 0 < l.length := List.length_pos_iff.mpr hne
      refine ⟨_, rfl, _, rfl, _, rfl, _, _, rfl, ⟨by rw [mk_len, sizeLine_eq]; omega, (mk_len l).symm⟩, I, D, n, _, rfl, dr, by omega, by omega, hn, fun r H' h0 h1 g d => ?_⟩
      obtain ⟨x, e1, e2⟩ := atI_of h0 h1
      exact .inr (.inr ⟨mk l, r, x, rfl, rfl, by rw [mk_len, sizeLine_eq]; omega, by rw [mk_cps]; exact e2, k _ x H' e1 g d⟩)
theorem ok_l_shuffled (T : Txt K mg) (F : FnAt K "_law_shuffled" "_law_shuffled" s_l_shuffled (He.ga K "_law_shuffled")) (G_l_next : Ok P w K mg base CX0 1 (He.ga K "_law_next") ["_law_draw", "_law_many"] (sp_l_next K)) : Ok P w K mg base CX0 2 (He.ga K "_law_shuffled") ["_law_draw", "_law_some_here"] (sp_l_shuffled K) := by
  refine ok_of F sc_l_shuffled (fun _ _ _ _ _ _ us hl => match us, hl with | [_, _], _ => rfl) (fun vs H Q E h => ?_) (fun cdv A outer s H vs Q E hr h => ?_)
  · obtain ⟨_, _, _, _, _, _, _, rfl, _⟩ := h
    rfl
  · obtain ⟨α, f, I, D, n, p, l, rfl, dr, hn, hl, hS, k⟩ := h
    refine ⟨_, (pss_cons (ps_par (i := 2) (j := 3) (by rfl) sc_l_shuffled.nd rfl rfl (by decide) rfl rfl (pa_cons (pe_callTy call_list_of (by rfl) T.b_list (by decide +kernel) (pa_cons (pv 1) pa_nil)) (pa_cons (pe_lst pa_nil) pa_nil)) (by rfl))
      (pss_cons (ps_while PassesOwn.never (pt_cmpR (op_neNil hr.units) (pv 2) (pe_lst pa_nil) (nomark _)) (pss_one (ps_expr (pe_bm PySem.F.plainAttrs_list PySem.F.slot_list_append PySem.F.type_list_append mt_append (pv 3) (pa_cons (pe_bm PySem.F.plainAttrs_list PySem.F.slot_list_pop PySem.F.type_list_pop mt_popAt (pv 2) (pa_cons (pe_callC G_l_next (hr.mono (by decide)) T.g__law_next (pa_cons (pv 0) (pa_cons (pe_callB call_len_seq (by rfl) T.b_len (by decide +kernel) (pa_cons (pv 2) pa_nil)) pa_nil))) pa_nil)) pa_nil)))))
      (pss_one (ps_ret (pv 3))))), ?_⟩
    refine ⟨_, rfl, p, _, rfl, .inl hS, fun a ha => ⟨Nat.zero_le _, fun b hb => ⟨_, _, rfl, ?_⟩⟩⟩
    have g1 : Grow (TD D) I H I (upd H a (.lst (l.map f))) := Grow.mine dr.sub ha
    have o1 : Own (TD D) H a (.lst (l.map f)) I (upd H a (.lst (l.map f))) := Own.new dr.sub (.inl (Same.refl H)) dr.live ha
    have g2 : Grow (TD D) I (upd H a (.lst (l.map f))) I (upd (upd H a (.lst (l.map f))) b (.lst [])) := Grow.mine g1.sub hb
    have o1' := o1.grow g2
    have o2 : Own (TD D) H b (.lst []) I (upd (upd H a (.lst (l.map f))) b (.lst [])) := Own.new g1.sub (.inr g1.live) (fun x t => g1.live x (dr.live x t)) hb
    have nab : a ≠ b := ne_of_none o1.at_ hb
    have d2 := (dr.grow (Grow.mine dr.sub ha)).grow (Grow.mine (o := .lst []) g1.sub hb)
    refine ⟨fun m σ H' => ∃ (lf fd : List α), m = lf.length ∧ σ = [some (.ref D.d), some (.ref p), some (.ref a), some (.ref b)] ∧ (fd ++ lf).Perm l ∧ Grow (TD D) I H I H' ∧ Own (TD D) H a (.lst (lf.map f)) I H' ∧ Own (TD D) H b (.lst (fd.map f)) I H' ∧ Drw D (n + fd.length) I H', ⟨_, l, [], rfl, rfl, by simp, g1.trans g2, o1', o2, d2⟩, ?_⟩
    rintro m σ H1 ⟨lf, fd, rfl, rfl, hp, g3, oa, ob, d3⟩
    refine ⟨_, rfl, Nat.zero_le _, fun q hq => ⟨a, q, _, rfl, rfl, SqL.of (by rw [upd_ne (ne_of_none oa.at_ hq)]; exact oa.at_), SqL.of upd_same, ?_⟩⟩
    have gq : Grow (TD D) I H1 I (upd H1 q (.lst [])) := Grow.mine g3.sub hq
    have oa2 := oa.grow gq
    have ob2 := ob.grow gq
    have d4 := d3.grow (Grow.mine (o := .lst []) g3.sub hq)
    have g4 := g3.trans gq
    have hlen := hp.length_eq
    rw [List.length_append] at hlen
    match lf, hp, oa, oa2, hlen with
    | [], hp, oa, oa2, hlen =>
      simp only [List.length_nil] at hlen
      exact ⟨_, rfl, iteF ⟨_, rfl, k fd b _ _ (by rw [List.append_nil] at hp; exact hp) (g4.give ob2) ((d4.give ob2).mono (by omega)) upd_same⟩⟩
    | x :: r, hp, oa, oa2, hlen =>
      simp only [List.length_cons] at hlen
      have e1 : (((x :: r).map f).length : Int) = ((r.length + 1 : Nat) : Int) := by simp
      refine ⟨_, rfl, iteT ⟨fun σ' H' => ∃ (lf fd' : List α), lf.length = r.length ∧ σ' = [some (.ref D.d), some (.ref p), some (.ref a), some (.ref b)] ∧ (fd' ++ lf).Perm l ∧ Grow (TD D) I H I H' ∧ Own (TD D) H a (.lst (lf.map f)) I H' ∧ Own (TD D) H b (.lst (fd'.map f)) I H' ∧ Drw D (n + fd'.length) I H',
        fun σ' H' ⟨lf, fd', e, z⟩ => ⟨lf.length, by simp only [List.length_cons]; omega, lf, fd', rfl, z⟩, ?_⟩⟩
      refine ⟨_, rfl, .inl ⟨rfl, _, SqL.of ob2.at_⟩, _, rfl, .inl ⟨rfl, _, SqL.of oa2.at_⟩, _, rfl, _, rfl, _, _, rfl, .inl (SqL.of oa2.at_), I, D, n + fd.length, _, rfl, d4, (by rw [e1]; omega), (by rw [e1]; omega), (by omega), fun z H5 h0 h1 g5 d5 => ?_⟩
      rw [e1] at h1
      have oa5 := oa2.grow g5
      have ob5 := ob2.grow g5
      have hz : z.toNat < (x :: r).length := by simp only [List.length_cons]; omega
      refine ⟨a, _, z, z.toNat, f ((x :: r)[z.toNat]'hz), rfl, rfl, oa5.at_, by omega, by omega, idx_of h0 (by rw [e1]; exact h1), by rw [List.getElem?_map, List.getElem?_eq_getElem hz]; rfl, ?_⟩
      have ob6 := ob5.other (m := a) (o' := .lst (((x :: r).map f).eraseIdx z.toNat)) nab.symm
      refine ⟨b, _, _, rfl, rfl, ob6.at_, by rw [sizeLine_eq]; simp; omega, (x :: r).eraseIdx z.toNat, fd ++ [(x :: r)[z.toNat]'hz], ?_, rfl, ?_, ((g4.trans g5).put oa5).put ob6, ?_, ?_, ?_⟩
      · rw [List.length_eraseIdx_of_lt hz]; rfl
      · rw [List.append_assoc]
        refine List.Perm.trans ?_ hp
        exact List.Perm.append_left fd (perm_erase hz)
      · have z1 := oa5.put (o' := .lst (((x :: r).map f).eraseIdx z.toNat))
        have e2 : ((x :: r).map f).eraseIdx z.toNat = ((x :: r).eraseIdx z.toNat).map f := map_erase _ _ _
        rw [e2] at z1 ⊢
        exact z1.other nab
      · have z1 := ob6.put (o' := .lst (fd.map f ++ [f ((x :: r)[z.toNat]'hz)]))
        rw [show (fd ++ [(x :: r)[z.toNat]'hz]).map f = fd.map f ++ [f ((x :: r)[z.toNat]'hz)] by simp]
        exact z1
      · rw [List.length_append, List.length_singleton, ← Nat.add_assoc]
        exact (d5.put oa5).put ob6
theorem ok_l_some (T : Txt K mg) (F : FnAt K "_law_some" "_law_some" s_l_some (He.ga K "_law_some")) (G_l_shuffled : Ok P w K mg base CX0 2 (He.ga K "_law_shuffled") ["_law_draw", "_law_some_here"] (sp_l_shuffled K)) (G_l_next : Ok P w K mg base CX0 1 (He.ga K "_law_next") ["_law_draw", "_law_many"] (sp_l_next K)) : Ok P w K mg base CX0 3 (He.ga K "_law_some") ["_law_draw", "_law_many"] (sp_l_some K) := by
  refine ok_of F sc_l_some (fun _ _ _ _ _ _ us hl => match us, hl with | [_, _], _ => rfl) (fun vs H Q E h => ?_) (fun cdv A outer s H vs Q E hr h => ?_)
  · obtain ⟨_, _, _, _, rfl, _⟩ := h
    rfl
  · obtain ⟨I, D, n, many, rfl, dr, hn, hm1, hm2, k⟩ := h
    refine ⟨_, (pss_one (ps_ret (pe_join pe_str (pe_slice sl_list (pe_callC G_l_shuffled (hr.mono (by decide)) T.g__law_shuffled (pa_cons (pv 0) (pa_cons (pe_callTy (call_list_sg rfl) (by rfl) T.b_list (by decide +kernel) (pa_cons pe_str pa_nil)) pa_nil))) po_none (po_some (pe_op op_add pe_int (pe_callC G_l_next (hr.mono (by decide)) T.g__law_next (pa_cons (pv 0) (pa_cons (pv 1) pa_nil))))))))), ?_⟩
    refine ⟨⟨_, rfl⟩, _, rfl, [97, 98, 99, 100], rfl, by decide, fun p hp => ?_⟩
    have g1 : Grow (TD D) I H I (upd H p (.lst (sgs [97, 98, 99, 100]))) := Grow.mine dr.sub hp
    refine ⟨Nat, (fun c => V.str (sg c)), I, D, n, p, [97, 98, 99, 100], rfl, dr.grow (Grow.mine dr.sub hp), (by show n + 4 < lim; omega), by decide, SqL.of upd_same, fun l' q I2 H2 pm g2 d2 hq => ?_⟩
    refine ⟨_, rfl, _, rfl, I2, D, n + 4, many, rfl, d2, by omega, by omega, by omega, fun r H3 h0 h1 g3 d3 => ⟨_, _, rfl, rfl, _, rfl, q, _, rfl, SqL.of (g3.sub _ _ (g3.view _ _ hq)), fun u hu => ?_⟩⟩
    have e1 : (1 + r : Int) = ((1 + r.toNat : Nat) : Int) := by omega
    rw [e1, cut_take]
    have g4 : Grow (TD D) I2 H3 I2 (upd H3 u (.lst (List.take (1 + r.toNat) (sgs l')))) := Grow.mine g3.sub hu
    refine ⟨"", u, (l'.take (1 + r.toNat)).map sg, rfl, rfl, .inl (SqL.of (by rw [upd_same, List.map_take, List.map_take, List.map_map] <;> rfl)), ?_, ?_⟩
    · have z := pm.length_eq
      rw [List.map_map]
      show ((l'.take (1 + r.toNat)).map fun _ => 1).sum + _ * 0 ≤ _
      rw [sum_ones, List.length_take]
      omega
    rw [join_signs]
    have hl := pm.length_eq
    simp only [List.length_cons, List.length_nil] at hl
    refine k (l'.take (1 + r.toNat)) I2 _ ?_ ?_ ?_ ?_ ((g1.trans g2).trans (g3.trans g4)) (d3.mine hu)
    · exact (pm.nodup_iff.mpr (by decide)).sublist (List.take_sublist _ _)
    · intro c hc
      have z := pm.mem_iff.mp (List.mem_of_mem_take hc)
      simp at z
      omega
    · intro z
      have z1 := congrArg List.length z
      rw [List.length_take, List.length_nil] at z1
      omega
    · rw [List.length_take]
      omega
end
end Nw

namespace Nw
open PySem PySem.Spec PyProof.Rows L2
/-! ### links and timetables, where messages are seen -/
abbrev Rides : Type := List (Int × Int)
def Dt.isRide : Dt → Bool
  | .sq true [.int b, .int e] => decide (b ≤ e)
  | _ => false
def sp_is_ride (K : PySem.W.Frag) : Sp := fun vs H Q _ => ∃ (I : Hp) (v : V) (x : Dt), vs = [v] ∧ isE K I v x ∧ Same I H ∧ Q (.bl x.isRide) H
theorem Paired.rev {α β : Type} {F : α → β → Prop} : ∀ {xs : List α} {ys : List β}, Paired F xs ys → Paired F xs.reverse ys.reverse
  | _, _, .nil => .nil
  | _, _, .cons a t => by
    rw [List.reverse_cons, List.reverse_cons]
    exact Nw.Paired.snoc (Paired.rev t) a
theorem Paired.last {α β : Type} {F : α → β → Prop} {xs : List α} {ys : List β} {y : β} (h : Paired F xs (ys ++ [y])) : ∃ x xr, xs = xr ++ [x] ∧ F x y := by
  have h2 := Paired.rev h
  rw [List.reverse_append] at h2
  cases e : xs.reverse with
  | nil => rw [e] at h2; cases h2
  | cons x r =>
    rw [e] at h2
    cases h2 with
    | cons h3 h4 => exact ⟨x, r.reverse, by rw [← List.reverse_reverse xs, e, List.reverse_cons], h3⟩
structure IsNeeded (rs ns : Rides) : Prop where
  asc : ns.Pairwise fun a b => a.1 < b.1 ∧ a.2 < b.2
  sub : ∀ n ∈ ns, n ∈ rs
  cov : ∀ r ∈ rs, ∃ n ∈ ns, r.1 ≤ n.1 ∧ n.2 ≤ r.2
def kvI (p : Int × Int) : Key × V := (.inl p.1, .int p.2)
def lookM (m : Rides) (b : Int) : Option Int := (m.find? fun p => decide (p.1 = b)).map (·.2)
def putM (m : Rides) (b e : Int) : Rides := if (m.any fun p => decide (p.1 = b)) = true then m.map (fun p => if p.1 = b then (p.1, e) else p) else m ++ [(b, e)]
theorem valV_I (b : Int) : ∀ m : Rides, valV (m.map kvI) (.inl b) = (lookM m b).map V.int
  | [] => rfl
  | p :: r => by
    by_cases h : p.1 = b
    · have e1 : lookM (p :: r) b = some p.2 := by simp [lookM, h]
      rw [e1, List.map_cons]
      exact valV_pos (by show (Sum.inl p.1 : Key) = Sum.inl b; rw [h])
    · have e1 : lookM (p :: r) b = lookM r b := by simp [lookM, h]
      rw [e1, List.map_cons, ← valV_I b r]
      exact valV_neg (fun z => h (Sum.inl.inj z))
theorem putK_I (m : Rides) (b e : Int) : putK (m.map kvI) (.inl b) (.int e) = (putM m b e).map kvI := by
  unfold putK putM
  have e1 : ((m.map kvI).any fun kv => decide (kv.1 = Sum.inl b)) = (m.any fun p => decide (p.1 = b)) := by
    rw [List.any_map]
    congr 1
    funext p
    show decide ((Sum.inl p.1 : Key) = Sum.inl b) = decide (p.1 = b)
    by_cases h : p.1 = b
    · rw [h, decide_eq_true rfl, decide_eq_true rfl]
    · rw [decide_eq_false h, decide_eq_false fun z => h (Sum.inl.inj z)]
  rw [e1]
  split
  · rw [List.map_map, List.map_map]
    congr 1
    funext p
    show (if (Sum.inl p.1 : Key) = Sum.inl b then ((Sum.inl p.1 : Key), V.int e) else kvI p) = kvI (if p.1 = b then (p.1, e) else p)
    by_cases h : p.1 = b
    · rw [if_pos h, if_pos (by rw [h])]
      rfl
    · rw [if_neg h, if_neg fun z => h (Sum.inl.inj z)]
  · rw [List.map_append]
    rfl
theorem lookM_none {m : Rides} {b : Int} (h : lookM m b = none) : ∀ p ∈ m, p.1 ≠ b := by
  intro p hp z
  unfold lookM at h
  rw [Option.map_eq_none_iff, List.find?_eq_none] at h
  exact h p hp (decide_eq_true z)
theorem lookM_some {m : Rides} {b e : Int} (h : lookM m b = some e) : (b, e) ∈ m := by
  unfold lookM at h
  rw [Option.map_eq_some_iff] at h
  obtain ⟨p, h1, h2⟩ := h
  have h3 := List.mem_of_find?_eq_some h1
  have h4 : p.1 = b := by simpa using List.find?_some h1
  cases p
  simp only at h2 h4
  subst h2 h4
  exact h3
theorem mem_putM {m : Rides} {b e : Int} {p : Int × Int} : p ∈ putM m b e ↔ p = (b, e) ∨ (p ∈ m ∧ p.1 ≠ b) := by
  unfold putM
  split
  · rename_i h
    rw [List.any_eq_true] at h
    obtain ⟨q, hq, hb⟩ := h
    have hb := of_decide_eq_true hb
    rw [List.mem_map]
    constructor
    · rintro ⟨r, hr, rfl⟩
      by_cases c : r.1 = b
      · rw [if_pos c]
        left
        rw [← c]
      · rw [if_neg c]
        exact .inr ⟨hr, c⟩
    · rintro (rfl | ⟨hp, c⟩)
      · exact ⟨q, hq, by rw [if_pos hb, hb]⟩
      · exact ⟨p, hp, by rw [if_neg c]⟩
  · rename_i h
    have hn : ∀ q ∈ m, q.1 ≠ b := fun q hq z => h (List.any_eq_true.mpr ⟨q, hq, decide_eq_true z⟩)
    rw [List.mem_append, List.mem_singleton]
    constructor
    · rintro (z | z)
      · exact .inr ⟨z, hn p z⟩
      · exact .inl z
    · rintro (z | z)
      · exact .inr z
      · exact .inl z.1
theorem keys_putM {m : Rides} {b e : Int} (h : (m.map (·.1)).Nodup) : ((putM m b e).map (·.1)).Nodup := by
  unfold putM
  split
  · have e1 : (m.map fun p => if p.1 = b then (p.1, e) else p).map (·.1) = m.map (·.1) := by
      rw [List.map_map]
      congr 1
      funext p
      show (if p.1 = b then (p.1, e) else p).1 = p.1
      split <;> rfl
    rw [e1]
    exact h
  · rename_i c
    rw [List.map_append, List.map_singleton]
    refine List.nodup_append.mpr ⟨h, by simp, fun x hx y hy => ?_⟩
    rw [List.mem_singleton] at hy
    subst hy
    rintro rfl
    obtain ⟨p, hp, e1⟩ := List.mem_map.mp hx
    exact c (List.any_eq_true.mpr ⟨p, hp, decide_eq_true e1⟩)
theorem len_putM (m : Rides) (b e : Int) : (putM m b e).length ≤ m.length + 1 := by
  unfold putM
  split
  · rw [List.length_map]; omega
  · rw [List.length_append]; simp
def sp_needed (K : PySem.W.Frag) : Sp := fun vs H Q _ => ∃ (I : Hp) (t : Bool) (v : V) (rs : Rides), vs = [v] ∧ isS t I v rs ∧ rs.length ≤ 100000 ∧ Same I H ∧ ∀ ns v' I' H', Grow No I H I' H' → isU I' v' ns → IsNeeded rs ns → Q v' H'
def ndJ (I H : Hp) (a d q L : Addr) (m : Rides) (kr : List Int) (v3 : Option V) (i : Nat) (σ : L2.St) (H' : Hp) : Prop :=
  ∃ (I' : Hp) (fs : Rides) (ws : List V) (v2 : Option V), σ = [some (.ref a), some (.ref d), v2, v3, some (.ref L), none] ∧ Grow No I H I' H' ∧ Own No H d (.dK (m.map kvI)) I' H' ∧ Own No H q (.lst (kr.map V.int)) I' H' ∧ Own No H L (.lst ws) I' H' ∧ Paired (Rep.is I') ws fs ∧
    fs.length ≤ i ∧ (fs.Pairwise fun a b => b.1 < a.1 ∧ b.2 < a.2) ∧ (∀ n ∈ fs, n ∈ m ∧ n.1 ∈ kr.take i) ∧ (∀ b ∈ kr.take i, ∀ e, (b, e) ∈ m → ∃ n ∈ fs, b ≤ n.1 ∧ n.2 ≤ e)
theorem getI {ns : List Int} {i : Nat} {v : V} (h : (ns.map V.int)[i]? = some v) : ∃ k, ns[i]? = some k ∧ v = .int k := by
  rw [List.getElem?_map] at h
  cases e : ns[i]? with
  | none => rw [e] at h; cases h
  | some k => rw [e] at h; exact ⟨k, rfl, (Option.some.inj h).symm⟩
theorem ride_dt {K : PySem.W.Frag} {I : Hp} {v : V} {r : Int × Int} (h : Rep.is I v r) : isE K I v (.sq true [.int r.1, .int r.2]) := by
  obtain ⟨a, v1, v2, rfl, ha, h1, h2⟩ := h
  cases h1
  cases h2
  exact .of (t := true) ha (.cons (.int _) (.cons (.int _) .nil))
def isLink (K : PySem.W.Frag) (I : Hp) (v : V) (ns : Rides) : Prop := ∃ a dx t, v = .ref a ∧ I a = some (.ins (He.ga K "Link") dx [("own_rides", t)]) ∧ isU I t ns
theorem isU.up {α : Type} [Rep α] {I I' : Hp} {v : V} {xs : List α} (h : isU I v xs) (e : Same I I') : isU I' v xs :=
  let ⟨a, vs, h1, h2, h3⟩ := h
  ⟨a, vs, h1, e _ _ h2, Paired.mono' (fun _ _ z => Rep.mono e z) h3⟩
theorem isL.up {α : Type} [Rep α] {I I' : Hp} {v : V} {xs : List α} (h : isL I v xs) (e : Same I I') : isL I' v xs :=
  let ⟨a, vs, h1, h2, h3⟩ := h
  ⟨a, vs, h1, e _ _ h2, Paired.mono' (fun _ _ z => Rep.mono e z) h3⟩
theorem isLink.up {K : PySem.W.Frag} {I I' : Hp} {v : V} {ns : Rides} (h : isLink K I v ns) (e : Same I I') : isLink K I' v ns :=
  let ⟨a, dx, t, h1, h2, h3⟩ := h
  ⟨a, dx, t, h1, e _ _ h2, h3.up e⟩
def kvS (p : Nat × V) : Key × V := (.inr (sg p.1), p.2)
def linksP (K : PySem.W.Frag) (I : Hp) (kvs : List (Nat × V)) (tb : List (Nat × Rides)) : Prop := Paired (fun (p : Nat × V) (q : Nat × Rides) => p.1 = q.1 ∧ isLink K I p.2 q.2) kvs tb
theorem linksP.up {K : PySem.W.Frag} {I I' : Hp} {kvs : List (Nat × V)} {tb : List (Nat × Rides)} (h : linksP K I kvs tb) (e : Same I I') : linksP K I' kvs tb := Paired.mono' (fun _ _ z => ⟨z.1, z.2.up e⟩) h
def isTable (K : PySem.W.Frag) (I : Hp) (v : V) (tb : List (Nat × Rides)) : Prop :=
  ∃ a dx d kvs, v = .ref a ∧ I a = some (.ins (He.ga K "Timetable") dx [("own_links", .ref d)]) ∧ I d = some (.dK (kvs.map kvS)) ∧ linksP K I kvs tb
theorem isTable.up {K : PySem.W.Frag} {I I' : Hp} {v : V} {tb : List (Nat × Rides)} (h : isTable K I v tb) (e : Same I I') : isTable K I' v tb :=
  let ⟨a, dx, d, kvs, h1, h2, h3, h4⟩ := h
  ⟨a, dx, d, kvs, h1, e _ _ h2, e _ _ h3, h4.up e⟩
def lookT {α : Type} (tb : List (Nat × α)) (c : Nat) : Option α := (tb.find? fun p => decide (p.1 = c)).map (·.2)
theorem valV_S (c : Nat) : ∀ kvs : List (Nat × V), valV (kvs.map kvS) (.inr (sg c)) = lookT kvs c
  | [] => rfl
  | p :: r => by
    by_cases h : p.1 = c
    · have e1 : lookT (p :: r) c = some p.2 := by simp [lookT, h]
      rw [e1, List.map_cons]
      exact valV_pos (by show (Sum.inr (sg p.1) : Key) = Sum.inr (sg c); rw [h])
    · have e1 : lookT (p :: r) c = lookT r c := by simp [lookT, h]
      rw [e1, List.map_cons, ← valV_S c r]
      exact valV_neg (fun z => h (mk_inj (a := [p.1]) (b := [c]) (Sum.inr.inj z) |> List.cons.inj |>.1))
theorem look_link {K : PySem.W.Frag} {I : Hp} {c : Nat} : ∀ {kvs : List (Nat × V)} {tb : List (Nat × Rides)}, linksP K I kvs tb → (lookT kvs c = none ∧ lookT tb c = none) ∨ ∃ v ns, lookT kvs c = some v ∧ lookT tb c = some ns ∧ isLink K I v ns
  | _, _, .nil => .inl ⟨rfl, rfl⟩
  | p :: r, q :: t, .cons h hp => by
    by_cases e : q.1 = c
    · exact .inr ⟨p.2, q.2, by simp [lookT, h.1, e], by simp [lookT, e], h.2⟩
    · have e1 : lookT (p :: r) c = lookT r c := by simp [lookT, h.1, e]
      have e2 : lookT (q :: t) c = lookT t c := by simp [lookT, e]
      rw [e1, e2]
      exact look_link hp
def sp_Link__init (K : PySem.W.Frag) : Sp := fun vs H Q _ => ∃ (I : Hp) (t : Bool) (x dx : Addr) (v : V) (rs : Rides), vs = [.ref x, v] ∧ H x = some (.ins (He.ga K "Link") dx []) ∧ I x = none ∧ isS t I v rs ∧ rs.length ≤ 60 ∧ (∀ r ∈ rs, r.1 ≤ r.2) ∧ Same I H ∧
  ∀ ns t I' H', Grow (TX x) I H I' H' → H' x = some (.ins (He.ga K "Link") dx [("own_rides", t)]) → isU I' t ns → IsNeeded rs ns → Q .non H'
def sp_Link_rides (K : PySem.W.Frag) : Sp := fun vs H Q _ => ∃ (a dx : Addr) (t : V), vs = [.ref a] ∧ H a = some (.ins (He.ga K "Link") dx [("own_rides", t)]) ∧ Q t H
def linksL : List Nat := [97, 98, 99, 100]
def orderT {α : Type} (tb : List (Nat × α)) : List (Nat × α) := linksL.filterMap fun c => (lookT tb c).map fun r => (c, r)
def T2 (x p : Addr) : Addr → Prop := fun b => b = x ∨ b = p
theorem linksP.keys {K : PySem.W.Frag} {I : Hp} : ∀ {kvs : List (Nat × V)} {tb : List (Nat × Rides)}, linksP K I kvs tb → kvs.map (·.1) = tb.map (·.1)
  | _, _, .nil => rfl
  | _, _, .cons h t => by rw [List.map_cons, List.map_cons, h.1, linksP.keys t]
def sp_Timetable__init (K : PySem.W.Frag) : Sp := fun vs H Q _ => ∃ (I : Hp) (x dx p : Addr) (kvs : List (Nat × V)) (tb : List (Nat × Rides)), vs = [.ref x, .ref p] ∧ H x = some (.ins (He.ga K "Timetable") dx []) ∧ H p = some (.dK (kvs.map kvS)) ∧ I x = none ∧ I p = none ∧ linksP K I kvs tb ∧ kvs ≠ [] ∧ kvs.length ≤ 4 ∧ (∀ q ∈ kvs, q.1 ∈ linksL) ∧ Same I H ∧
  ∀ d kvs' I' H', Grow (T2 x p) I H I' H' → H' x = some (.ins (He.ga K "Timetable") dx [("own_links", .ref d)]) → I' d = some (.dK (kvs'.map kvS)) → linksP K I' kvs' (orderT tb) → Q .non H'
theorem mem_keys {kvs : List (Nat × V)} {i : Nat} {kk : Key} {vv : V} (h : (kvs.map kvS)[i]? = some (kk, vv)) : ∃ q, q ∈ kvs ∧ kvs[i]? = some q ∧ kk = .inr (sg q.1) ∧ vv = q.2 := by
  rw [List.getElem?_map] at h
  cases e : kvs[i]? with
  | none => rw [e] at h; cases h
  | some q =>
    rw [e] at h
    cases h
    exact ⟨q, List.mem_of_getElem? e, rfl, rfl, rfl⟩
theorem look_mem {α : Type} {tb : List (Nat × α)} {q : Nat × α} (h : q ∈ tb) : ∃ r, lookT tb q.1 = some r := by
  unfold lookT
  cases e : tb.find? fun p => decide (p.1 = q.1) with
  | none =>
    rw [List.find?_eq_none] at e
    exact absurd (decide_eq_true rfl) (e q h)
  | some r => exact ⟨r.2, rfl⟩
section
variable {P : Program} {w : World} {K : PySem.W.Frag} {mg : Str → Option Value} {base : Heap}
theorem ok_is_ride (T : Txt K mg) (F : FnAt K "is_ride" "is_ride" s_is_ride (He.ga K "is_ride")) (G_is_number : Ok P w K mg base CX0 1 (He.ga K "is_number") ["thing"] (sp_is_number K)) : Ok P w K mg base CX0 2 (He.ga K "is_ride") ["thing"] (sp_is_ride K) := by
  refine ok_of F sc_is_ride (fun _ _ _ _ _ _ us hl => match us, hl with | [_], _ => rfl) (fun vs H Q E h => ?_) (fun cdv A outer s H vs Q E hr h => ?_)
  · obtain ⟨_, _, _, rfl, _⟩ := h
    rfl
  · obtain ⟨I, v, x, rfl, hx, sb, k⟩ := h
    refine ⟨_, (pss_cons (ps_if (PW.pt (pw_or (pt_not (pt_val (pe_callB call_isi (by rfl) T.b_isinstance (by decide +kernel) (pa_cons (pv 0) (pa_cons (pe_bltn (v := .ty "tuple") rfl T.b_tuple (by decide +kernel) rfl) pa_nil))))) (pw_or (pt_cmpR op_ne (pe_callB call_len (by rfl) T.b_len (by decide +kernel) (pa_cons (pv 0) pa_nil)) pe_int (nomark _)) (pw_or (pt_not (pt_val (pe_callC G_is_number (hr.mono (by decide)) T.g_is_number (pa_cons (pe_ix ix_tup (pv 0) pe_int (fun _ _ => rfl)) pa_nil)))) (pw_or1 (pt_not (pt_val (pe_callC G_is_number (hr.mono (by decide)) T.g_is_number (pa_cons (pe_ix ix_tup (pv 0) pe_int (fun _ _ => rfl)) pa_nil))))))))) (pss_one (ps_ret pe_bl)) pss_nil)
      (pss_one (ps_ret (pe_cmpR op_le (pe_ix ix_tup (pv 0) pe_int (fun _ _ => rfl)) (pe_ix ix_tup (pv 0) pe_int (fun _ _ => rfl)) (nomark _))))), ?_⟩
    obtain ⟨t, ty, ks⟩ := hx.ty sb
    refine ⟨_, rfl, v, .ty "tuple", _, _, _, rfl, .ty _, ty, ks.tup, _, rfl, ?_⟩
    cases x with
    | sq t xs =>
      cases t with
      | false => exact iteT k
      | true =>
        obtain ⟨a, vs, rfl, ha, es⟩ := hx.inv
        have ha := sb _ _ ha
        refine iteF ⟨_, rfl, .ref a, vs.length, rfl, .inr ⟨_, SqT.of ha, rfl⟩, rfl, _, rfl, ?_⟩
        by_cases h3 : xs.length = 2
        · match xs, vs, es.len, h3, es, ha, k with
          | [x0, x1], [v0, v1], _, _, es, ha, k =>
            have at20 : atI [v0, v1] 0 = some v0 := by rw [atI_nat' (j := 0) (by decide)]; rfl
            have at21 : atI [v0, v1] 1 = some v1 := by rw [atI_nat' (j := 1) (by decide)]; rfl
            refine iteF ⟨_, rfl, _, _, 0, _, rfl, rfl, SqT.of ha, at20, I, v0, x0, rfl, es.at_ 0 _ _ rfl rfl, sb, _, rfl, ?_⟩
            have no0 : x0.isNum = false → (Dt.sq true [x0, x1]).isRide = false := fun h => by cases x0 <;> first | rfl | cases h
            have no1 : x1.isNum = false → (Dt.sq true [x0, x1]).isRide = false := fun h => by cases x0 <;> cases x1 <;> first | rfl | cases h
            cases l0 : x0.isNum with
            | false =>
              rw [no0 l0] at k
              exact iteT k
            | true =>
              refine iteF ⟨_, rfl, _, _, 1, _, rfl, rfl, SqT.of ha, at21, I, v1, x1, rfl, es.at_ 1 _ _ rfl rfl, sb, _, rfl, ?_⟩
              cases l1 : x1.isNum with
              | false =>
                rw [no1 l1] at k
                exact iteT k
              | true =>
                match x0, x1, l0, l1, es, k with
                | .int b, .int e, _, _, es, k =>
                  have e0 : v0 = .int b := by cases es.at_ 0 _ _ rfl rfl; rfl
                  have e1 : v1 = .int e := by cases es.at_ 1 _ _ rfl rfl; rfl
                  subst e0 e1
                  exact iteF ⟨_, rfl, _, _, 0, _, rfl, rfl, SqT.of ha, at20, _, rfl, _, _, 1, _, rfl, rfl, SqT.of ha, at21, _, _, rfl, rfl, k⟩
        · have e : (Dt.sq true xs).isRide = false := by
            match xs, h3 with
            | [], _ => rfl
            | [x], _ => cases x <;> rfl
            | [_, _], h3 => exact absurd rfl h3
            | x :: y :: _ :: _, _ => cases x <;> cases y <;> rfl
          rw [e] at k
          rw [decide_eq_false (fun z => h3 (by have := V.int.inj z; rw [← es.len]; omega))]
          exact iteT k
    | str l => exact iteT k
    | int i => exact iteT k
    | bl b => exact iteT k
    | non => exact iteT k
    | dic => exact iteT k
    | obj => exact iteT k
theorem ok_needed (T : Txt K mg) (F : FnAt K "needed" "needed" s_needed (He.ga K "needed"))  : Ok P w K mg base CX0 1 (He.ga K "needed") ["rides"] (sp_needed K) := by
  refine ok_of F sc_needed (fun _ _ _ _ _ _ us hl => match us, hl with | [_], _ => rfl) (fun vs H Q E h => ?_) (fun cdv A outer s H vs Q E hr h => ?_)
  · obtain ⟨_, _, _, _, rfl, _⟩ := h
    rfl
  · obtain ⟨I, tt, v, rs, rfl, ⟨a, vs, rfl, ha, hp⟩, hz, sb, k⟩ := h
    refine ⟨_, (pss_cons (ps_set (i := 1) sc_needed.nd rfl (Or.inl rfl) pe_dnewK)
      (pss_cons (ps_for PassesOwn.never rfl (pi_seq (pv 0)) (pg_tup (by rfl) (pgs_cons (pg_name (i := 2) sc_needed.nd rfl (Or.inl rfl)) (pgs_cons (pg_name (i := 3) sc_needed.nd rfl (Or.inl rfl)) pgs_nil))) (pss_one (ps_dput (hu_of hr) (pv 1) (pv 2) (pe_ifExp (PW.pt (pw_or (pt_cmp (pc_dnotin (hu_of hr) (pv 2) (pv 1))) (pw_or1 (pt_cmpR op_lt (pv 3) (pe_dget (hu_of hr) (pv 1) (pv 2) (fun _ _ => rfl)) (nomark _))))) (pv 3) (pe_dget (hu_of hr) (pv 1) (pv 2) (fun _ _ => rfl))) rfl)))
      (pss_cons (ps_set (i := 4) sc_needed.nd rfl (Or.inl rfl) (pe_lst pa_nil))
      (pss_cons (ps_for PassesOwn.never rfl (pi_list (pe_revL (pe_callB cr_sortedI (by rfl) T.b_sorted (by decide +kernel) (pa_cons (pe_lock (pe_lc (own := [("one", 5)]) (g := (gName 5)) rfl sc_needed.nd (pi_keys (pv 1)) (blkOk_by (own := [("one", 5)]) (N := n_needed) (sc := defScope s_needed) (by decide +kernel)) (fun _ _ _ _ _ => (pg_name (i := 5) sc_needed.nd rfl (Or.inl rfl))) (fun _ _ _ _ _ => pts_nil) (fun _ _ _ _ _ => (pe_callTy call_int1 (by rfl) T.b_int (by decide +kernel) (pa_cons (pv 5) pa_nil))))) pa_nil)))) (pg_name (i := 2) sc_needed.nd rfl (Or.inl rfl)) (pss_one (ps_if (PW.pt (pw_or (pt_cmpR (op_eqNil hr.units) (pv 4) (pe_lst pa_nil) (nomark _)) (pw_or1 (pt_cmpR op_lt (pe_dget (hu_of hr) (pv 1) (pv 2) (fun _ _ => rfl)) (pe_ix ix_tup (pe_ix ix_list (pv 4) (pe_un un_neg pe_int) (fun _ _ => rfl)) pe_int (fun _ _ => rfl)) (nomark _))))) (pss_one (ps_expr (pe_bm PySem.F.plainAttrs_list PySem.F.slot_list_append PySem.F.type_list_append mt_append (pv 4) (pa_cons (pe_tup (pa_cons (pv 2) (pa_cons (pe_dget (hu_of hr) (pv 1) (pv 2) (fun _ _ => rfl)) pa_nil))) pa_nil)))) pss_nil)))
      (pss_one (ps_ret (pe_callTy call_tuple_of (by rfl) T.b_tuple (by decide +kernel) (pa_cons (pe_revL (pv 4)) pa_nil)))))))), ?_⟩
    intro d hd
    refine ⟨_, rfl, a, tt, rfl, ⟨_, SqB.of (by rw [upd_ne (ne_of_none (sb _ _ ha) hd)]; exact sb _ _ ha)⟩, ?_⟩
    refine for_it walk_seq (fun i σ H' => ∃ (I' : Hp) (m : Rides) (v2 v3 : Option V), σ = [some (.ref a), some (.ref d), v2, v3, none, none] ∧ Grow No I H I' H' ∧ Own No H d (.dK (m.map kvI)) I' H' ∧ (m.map (·.1)).Nodup ∧ (∀ p ∈ m, p ∈ rs.take i) ∧ (∀ r ∈ rs.take i, ∃ e, (r.1, e) ∈ m ∧ e ≤ r.2) ∧ m.length ≤ i)
      ⟨I, [], none, none, rfl, Grow.mine sb hd, Own.new sb (.inl (Same.refl H)) (fun _ z => z.elim) hd, .nil, (fun p z => nomatch z), (fun r z => by simp at z), Nat.le_refl _⟩ (fun i σ H' _ ⟨I', _, _, _, _, g, _⟩ => SqB.of (g.same _ _ (sb _ _ ha))) ?_ ?_
    · rintro i x σ H2 H3 hi ⟨I', m, v2, v3, rfl, g, ow, nd, h1, h2, hl⟩ ⟨rfl, hx⟩
      obtain ⟨r, hr, b, w1, w2, rfl, hb, e1, e2⟩ := Nw.Paired.at' hp hx
      cases e1
      cases e2
      have hi2 : i < rs.length := by
        have := Nw.Paired.len hp
        omega
      refine ⟨b, _, rfl, SqT.of (g.same _ _ (sb _ _ hb)), rfl, _, _, rfl, _, _, rfl, rfl, ?_⟩
      -- the value
      have hget : DGet H3 d (.int r.1) ((lookM m r.1).map V.int) := by
        have z := DGet.k (k := .inl r.1) ow.at_
        rw [valV_I] at z
        exact z
      have fin : ∀ e, (e = r.2 ∨ (r.1, e) ∈ m) → e ≤ r.2 → (∀ e', (r.1, e') ∈ m → e ≤ e') →
          ∃ (a2 : Addr) (H4 : Hp), (V.ref d) = V.ref a2 ∧ DPut H3 a2 (.int r.1) (.int e) H4 ∧ ∃ (I' : Hp) (m : Rides) (v2 v3 : Option V), [some (V.ref a), some (V.ref d), some (V.int r.1), some (V.int r.2), none, none] = [some (.ref a), some (.ref d), v2, v3, none, none] ∧ Grow No I H I' H4 ∧ Own No H d (.dK (m.map kvI)) I' H4 ∧ (m.map (·.1)).Nodup ∧ (∀ p ∈ m, p ∈ rs.take (i + 1)) ∧ (∀ r ∈ rs.take (i + 1), ∃ e, (r.1, e) ∈ m ∧ e ≤ r.2) ∧ m.length ≤ i + 1 := by
        intro e he hle hmin
        have z := DPut.k (k := .inl r.1) (v := .int e) ow.at_ (by rw [List.length_map, sizeLine_eq]; omega)
        rw [putK_I] at z
        refine ⟨d, _, rfl, z, I', putM m r.1 e, _, _, rfl, g.put ow, ow.put, keys_putM nd, fun p hp' => ?_, fun q hq => ?_, Nat.le_trans (len_putM _ _ _) (by omega)⟩
        · rw [mem_take hr]
          rcases mem_putM.mp hp' with rfl | ⟨z, _⟩
          · rcases he with rfl | he
            · exact .inr rfl
            · exact .inl (h1 _ he)
          · exact .inl (h1 p z)
        · rcases (mem_take hr).mp hq with q1 | rfl
          · obtain ⟨e', he', hle'⟩ := h2 q q1
            by_cases c : q.1 = r.1
            · exact ⟨e, mem_putM.mpr (.inl (by rw [c])), by rw [c] at he'; exact Int.le_trans (hmin e' he') hle'⟩
            · exact ⟨e', mem_putM.mpr (.inr ⟨he', c⟩), hle'⟩
          · exact ⟨e, mem_putM.mpr (.inl rfl), hle⟩
      have uniq : ∀ e e', (r.1, e) ∈ m → (r.1, e') ∈ m → e = e' := fun e e' p1 p2 => by
        obtain ⟨i1, l1, q1⟩ := List.mem_iff_getElem.mp p1
        obtain ⟨i2, l2, q2⟩ := List.mem_iff_getElem.mp p2
        have key : (m.map (·.1))[i1]'(by simpa using l1) = (m.map (·.1))[i2]'(by simpa using l2) := by
          rw [List.getElem_map, List.getElem_map, q1, q2]
        have ei : i1 = i2 := (List.getElem_inj nd).mp key
        subst ei
        rw [q1] at q2
        exact (Prod.mk.inj q2).2
      cases hlk : lookM m r.1 with
      | none =>
        rw [hlk] at hget
        refine ⟨_, rfl, _, rfl, d, _, rfl, hget, true, rfl, ?_⟩
        refine iteT ?_
        refine iteT ?_
        exact ⟨_, rfl, _, rfl, _, rfl, fin r.2 (.inl rfl) (Int.le_refl _) fun e' he' => (lookM_none hlk (r.1, e') he' rfl).elim⟩
      | some e0 =>
        rw [hlk] at hget
        have hm0 := lookM_some hlk
        refine ⟨_, rfl, _, rfl, d, _, rfl, hget, false, rfl, ?_⟩
        refine iteF ?_
        refine ⟨_, rfl, _, rfl, _, rfl, d, _, rfl, hget, _, _, rfl, rfl, _, rfl, ?_⟩
        by_cases c : r.2 < e0
        · rw [decide_eq_true c]
          refine iteT ?_
          exact ⟨_, rfl, _, rfl, _, rfl, fin r.2 (.inl rfl) (Int.le_refl _) fun e' he' => by rw [uniq _ _ he' hm0]; omega⟩
        · rw [decide_eq_false c]
          refine iteF ?_
          exact ⟨_, rfl, _, rfl, d, _, rfl, hget, _, rfl, _, rfl, fin e0 (.inr hm0) (by omega) fun e' he' => by rw [uniq _ _ he' hm0]; exact Int.le_refl _⟩
    · rintro σ H2 ⟨I', m, v2, v3, rfl, g, ow, nd, h1, h2, hl⟩
      have et : rs.take vs.length = rs := by rw [Nw.Paired.len hp, List.take_length]
      rw [et] at h1 h2
      refine ⟨Nat.zero_le _, fun L hL => ?_⟩
      have gL := g.trans (Grow.mine (T := No) (o := .lst []) g.sub hL)
      have owL : Own No H L (.lst []) I' (upd H2 L (.lst [])) := Own.new g.sub (.inr g.live) (fun _ z => z.elim) hL
      have owd := ow.grow (Grow.mine (T := No) (o := .lst []) g.sub hL)
      have ndL : d ≠ L := ne_of_none ow.at_ hL
      -- sorted([int(one) for one in ends])[::-1]
      refine ⟨d, _, owd.at_, trivial, fun od => ?_⟩
      have gf := gL.put (o' := .frz od (.dK (m.map kvI))) owd
      have owf : Own No H d (.frz od (.dK (m.map kvI))) I' (upd (upd H2 L (.lst [])) d (.frz od (.dK (m.map kvI)))) := owd.put
      refine ⟨_, rfl, d, od, rfl, .inl ⟨_, upd_same, fun M hM => ?_⟩⟩
      refine lc_pure (β := Int) walk_keys m (fun p => some p.1) (by rw [List.length_map]) gf.sub hM (by rw [List.length_map]; have := Nw.Paired.len hp; omega) (fun I1 H1 g1 => g1.keep _ _ (fun z => z) upd_same) ?_ ?_
      · rintro j p x I1 H1 H3 hj g1 ⟨rfl, kk, vv, hkv, rfl⟩ Kn Ky kn ky
        have ek : kvI p = (kk, vv) := by
          rw [List.getElem?_map, hj] at hkv
          exact Option.some.inj hkv
        cases ek
        refine ⟨rfl, lc_yes ?_⟩
        exact ⟨_, rfl, .inl ⟨_, rfl, ky _ rfl _ I1 H3 (Grow.refl g1.sub) rfl⟩⟩
      · intro I1 H1 vs1 g1 owM hp1
        have e1 := Paired.ints hp1
        rw [fm_some] at e1
        subst e1
        have owf1 := owf.grow g1
        have gf1 := gf.trans g1
        have ndM : M ≠ d := (ne_of_none upd_same hM).symm
        refine ⟨owf1.at_, M, _, rfl, SqL.of (by rw [upd_ne ndM]; exact owM.at_), fun ks p perm rising hpn => ?_⟩
        -- the walk from the last one on
        have gs := (gf1.put (o' := .dK (m.map kvI)) owf1)
        have owd2 : Own No H d (.dK (m.map kvI)) I1 (upd H1 d (.dK (m.map kvI))) := owf1.put
        have owL2 : Own No H L (.lst []) I1 (upd H1 d (.dK (m.map kvI))) := ((owL.other ndL.symm).grow g1).other ndL.symm
        have gp := gs.trans (Grow.mine (T := No) (o := .lst (ks.map V.int)) gs.sub hpn)
        have owd3 := owd2.grow (Grow.mine (T := No) (o := .lst (ks.map V.int)) gs.sub hpn)
        have owL3 := owL2.grow (Grow.mine (T := No) (o := .lst (ks.map V.int)) gs.sub hpn)
        refine ⟨p, _, rfl, SqL.of upd_same, fun q hq => ?_⟩
        rw [show (ks.map V.int).reverse = ks.reverse.map V.int from (List.map_reverse ..).symm]
        have gq := gp.trans (Grow.mine (T := No) (o := .lst (ks.reverse.map V.int)) gp.sub hq)
        have owd4 := owd3.grow (Grow.mine (T := No) (o := .lst (ks.reverse.map V.int)) gp.sub hq)
        have owL4 := owL3.grow (Grow.mine (T := No) (o := .lst (ks.reverse.map V.int)) gp.sub hq)
        have owq : Own No H q (.lst (ks.reverse.map V.int)) I1 _ := Own.new gp.sub (.inr gp.live) (fun _ z => z.elim) hq
        have hks : ∀ j b, ks.reverse[j]? = some b → ∃ e, (b, e) ∈ m := fun j b hj => by
          have h3 : b ∈ ks := List.mem_reverse.mp (List.mem_of_getElem? hj)
          obtain ⟨p, hp, rfl⟩ := List.mem_map.mp (perm.mem_iff.mp h3)
          exact ⟨p.2, hp⟩
        have desc : ks.reverse.Pairwise (fun a b => b < a) := by
          rw [List.pairwise_reverse]
          have ndk : ks.Nodup := perm.nodup_iff.mpr nd
          exact (List.Pairwise.and rising ndk).imp fun z => by omega
        refine ⟨q, rfl, ⟨_, SqL.of upd_same⟩, ?_⟩
        have hlk : ∀ b e, (b, e) ∈ m → lookM m b = some e := fun b e he => by
          cases hl2 : lookM m b with
          | none => exact (lookM_none hl2 (b, e) he rfl).elim
          | some e0 =>
            have p2 := lookM_some hl2
            obtain ⟨i1, l1, q1⟩ := List.mem_iff_getElem.mp he
            obtain ⟨i2, l2, q2⟩ := List.mem_iff_getElem.mp p2
            have key : (m.map (·.1))[i1]'(by simpa using l1) = (m.map (·.1))[i2]'(by simpa using l2) := by
              rw [List.getElem_map, List.getElem_map, q1, q2]
            have ei : i1 = i2 := (List.getElem_inj nd).mp key
            subst ei
            rw [q1] at q2
            rw [(Prod.mk.inj q2).2]
        have nqL : q ≠ L := (ne_of_none owL3.at_ hq).symm
        refine for_it walk_list (ndJ I H a d q L m ks.reverse v3)
          ⟨I1, [], [], v2, rfl, gq, owd4, owq, owL4, .nil, Nat.le_refl _, .nil, (fun n z => nomatch z), fun b hb => by simp at hb⟩ (fun i σ H' _ ⟨I', _, _, _, _, g, _, oq, _⟩ => SqL.of oq.at_) ?_ ?_
        · rintro j x σ H3 H4 hj ⟨I', fs, ws, v2', rfl, g3, od3, oq3, oL3, hpr, hfl, hasc, hsub, hcov⟩ ⟨rfl, hx⟩
          obtain ⟨b, hb, rfl⟩ := getI hx
          obtain ⟨e, he⟩ := hks j b hb
          have hlb := hlk b e he
          have hget : DGet H4 d (.int b) (some (.int e)) := by
            have z := DGet.k (k := .inl b) od3.at_
            rw [valV_I, hlb] at z
            exact z
          have nLd : L ≠ d := ne_of oL3.at_ od3.at_ (by intro z; cases z)
          have hjl : j < ks.reverse.length := by
            obtain ⟨h, _⟩ := List.getElem?_eq_some_iff.mp hb
            exact h
          have hkl : ks.length = m.length := by rw [perm.length_eq, List.length_map]
          have hlt : ∀ c ∈ ks.reverse.take j, b < c := fun c hc => by
            obtain ⟨i, hi, ec⟩ := List.mem_iff_getElem.mp hc
            rw [List.getElem_take] at ec
            rw [List.length_take] at hi
            have eb : ks.reverse[j] = b := by
              have := List.getElem?_eq_getElem hjl
              rw [hb] at this
              exact (Option.some.inj this).symm
            have := (List.pairwise_iff_getElem.mp desc) i j (by omega) hjl (by omega)
            rw [ec, eb] at this
            exact this
          have hcase : fs = [] ∨ ∃ fr l, fs = fr ++ [l] := by
            cases fs.eq_nil_or_concat with
            | inl h => exact .inl h
            | inr h => exact .inr (let ⟨l, x, e⟩ := h; ⟨l, x, by simpa using e⟩)
          have app : (∀ n ∈ fs, e < n.2) → ∀ H5 : Hp, Grow No I' H4 I' H5 → ∀ t, H5 t = none → ndJ I H a d q L m ks.reverse v3 (j + 1) [some (.ref a), some (.ref d), some (.int b), v3, some (.ref L), none] (upd (upd H5 t (.tup [.int b, .int e])) L (.lst (ws ++ [.ref t]))) := by
            intro hlast H5 g5 t ht
            have gt := Grow.new (T := No) (o := .tup [.int b, .int e]) g5.sub ht
            have oL5 := (oL3.grow g5).grow gt
            refine ⟨upd I' t (.tup [.int b, .int e]), fs ++ [(b, e)], ws ++ [.ref t], _, rfl, ((g3.trans g5).trans gt).put oL5, ((od3.grow g5).grow gt).other nLd.symm, ((oq3.grow g5).grow gt).other nqL, oL5.put, Nw.Paired.snoc (Paired.mono' (fun _ _ z => Rep.mono gt.view z) hpr) ⟨t, _, _, rfl, upd_same, rfl, rfl⟩, by simp; omega, ?_, fun n hn => ?_, fun b2 hb2 e2 he2 => ?_⟩
            · rw [List.pairwise_append]
              refine ⟨hasc, by simp, fun x hx y hy => ?_⟩
              rw [List.mem_singleton] at hy
              subst hy
              exact ⟨hlt x.1 (hsub x hx).2, hlast x hx⟩
            · rcases List.mem_append.mp hn with z | z
              · exact ⟨(hsub n z).1, (mem_take hb).mpr (.inl (hsub n z).2)⟩
              · rw [List.mem_singleton] at z
                subst z
                exact ⟨he, (mem_take hb).mpr (.inr rfl)⟩
            · rcases (mem_take hb).mp hb2 with z | rfl
              · obtain ⟨n, hn, q1, q2⟩ := hcov b2 z e2 he2
                exact ⟨n, List.mem_append_left _ hn, q1, q2⟩
              · have h4 := hlk b2 e2 he2
                rw [hlb] at h4
                cases h4
                exact ⟨(b2, e), List.mem_append_right _ (by simp), Int.le_refl _, Int.le_refl _⟩
          refine ⟨_, rfl, Nat.zero_le _, fun p2 hp2 => ⟨L, p2, ws, rfl, rfl, SqL.of (by rw [upd_ne (ne_of_none oL3.at_ hp2)]; exact oL3.at_), SqL.of upd_same, _, rfl, ?_⟩⟩
          have g5 := Grow.mine (T := No) (o := .lst []) g3.sub hp2
          have oL5 := oL3.grow g5
          have od5 := od3.grow g5
          have hget5 : DGet (upd H4 p2 (.lst [])) d (.int b) (some (.int e)) := by
            have z := DGet.k (k := .inl b) od5.at_
            rw [valV_I, hlb] at z
            exact z
          rcases hcase with rfl | ⟨fr, l, rfl⟩
          · have ews : ws = [] := by cases hpr; rfl
            subst ews
            refine iteT ?_
            refine iteT ?_
            refine ⟨_, rfl, .inl ⟨rfl, _, SqL.of oL5.at_⟩, _, rfl, _, rfl, _, rfl, d, _, rfl, hget5, (by show 2 ≤ sizeLine; decide), fun t ht => ?_⟩
            refine ⟨L, _, _, rfl, rfl, by rw [upd_ne (ne_of_none oL5.at_ ht)]; exact oL5.at_, by decide, ?_⟩
            exact app (fun n z => nomatch z) _ g5 t ht
          · obtain ⟨w1, wr, ew, hwl⟩ : ∃ w1 wr, ws = wr ++ [w1] ∧ Rep.is I' w1 l := Paired.last hpr
            subst ew
            have eemp : (wr ++ [w1]).isEmpty = false := by simp
            rw [eemp]
            refine iteF ?_
            obtain ⟨la, l1, l2, rfl, hla, hl1, hl2⟩ := hwl
            cases hl1
            cases hl2
            refine ⟨_, rfl, _, rfl, d, _, rfl, hget5, _, rfl, _, rfl, L, _, _, _, rfl, rfl, SqL.of oL5.at_, atI_last _ _, la, _, 1, _, rfl, rfl, SqT.of (g5.sub _ _ (g5.view _ _ hla)), rfl, _, _, rfl, rfl, _, rfl, ?_⟩
            by_cases c : e < l.2
            · rw [decide_eq_true c]
              refine iteT ?_
              refine ⟨_, rfl, .inl ⟨rfl, _, SqL.of oL5.at_⟩, _, rfl, _, rfl, _, rfl, d, _, rfl, hget5, (by show 2 ≤ sizeLine; decide), fun t ht => ?_⟩
              refine ⟨L, _, _, rfl, rfl, by rw [upd_ne (ne_of_none oL5.at_ ht)]; exact oL5.at_, ?_, ?_⟩
              · have h5 := Nw.Paired.len hpr
                have h6 := Nw.Paired.len hp
                rw [h5, sizeLine_eq]
                rw [List.length_reverse] at hjl
                omega
              · refine app (fun n hn => ?_) _ g5 t ht
                rcases List.mem_append.mp hn with z | z
                · have := (List.pairwise_append.mp hasc).2.2 n z l (by simp)
                  omega
                · rw [List.mem_singleton] at z
                  rw [z]
                  exact c
            · rw [decide_eq_false c]
              refine iteF ?_
              refine ⟨I', fr ++ [l], _, _, rfl, g3.trans g5, od5, oq3.grow g5, oL5, hpr, by omega, hasc, fun n hn => ⟨(hsub n hn).1, (mem_take hb).mpr (.inl (hsub n hn).2)⟩, fun b2 hb2 e2 he2 => ?_⟩
              rcases (mem_take hb).mp hb2 with z | rfl
              · exact hcov b2 z e2 he2
              · have h4 := hlk b2 e2 he2
                rw [hlb] at h4
                cases h4
                exact ⟨l, by simp, Int.le_of_lt (hlt l.1 (hsub l (by simp)).2), by omega⟩
        · rintro σ H3 ⟨I', fs, ws, v2', rfl, g3, od3, oq3, oL3, hpr, hfl, hasc, hsub, hcov⟩
          refine ⟨_, rfl, L, _, rfl, SqL.of oL3.at_, fun p2 hp2 => ?_⟩
          refine ⟨p2, _, rfl, .inl ⟨SqL.of upd_same, fun l hl2 => ?_⟩⟩
          have g4 := g3.trans (Grow.mine (T := No) (o := .lst ws.reverse) g3.sub hp2)
          have g5 := g4.trans (Grow.new (T := No) (o := .tup ws.reverse) g4.sub hl2)
          rw [List.length_map, List.take_length] at hsub hcov
          refine k fs.reverse _ _ _ g5 ⟨l, ws.reverse, rfl, upd_same, Paired.mono' (fun _ _ z => Rep.mono (Same.up (g4.sub.free hl2)) z) (Paired.rev hpr)⟩ ⟨?_, fun n hn => ?_, fun r hr => ?_⟩
          · rw [List.pairwise_reverse]
            exact hasc
          · exact h1 n (hsub n (List.mem_reverse.mp hn)).1
          · obtain ⟨e, he, hle⟩ := h2 r hr
            have hb : r.1 ∈ ks.reverse := List.mem_reverse.mpr (perm.mem_iff.mpr (List.mem_map.mpr ⟨_, he, rfl⟩))
            obtain ⟨n, hn, q1, q2⟩ := hcov r.1 hb e he
            exact ⟨n, List.mem_reverse.mpr hn, q1, by omega⟩
theorem ok_Link__init (T : Txt K mg) (F : FnAt K "__init__" "Link.__init__" s_Link__init (He.ma K (He.ga K "Link") "__init__")) (G_is_ride : Ok P w K mg base CX0 2 (He.ga K "is_ride") ["thing"] (sp_is_ride K)) (G_needed : Ok P w K mg base CX0 1 (He.ga K "needed") ["rides"] (sp_needed K)) : Ok P w K mg base CX0 3 (He.ma K (He.ga K "Link") "__init__") ["self", "rides"] (sp_Link__init K) := by
  refine ok_of F sc_Link__init (fun _ _ _ _ _ _ us hl => match us, hl with | [_, _], _ => rfl) (fun vs H Q E h => ?_) (fun cdv A outer s H vs Q E hr h => ?_)
  · obtain ⟨_, _, _, _, _, _, rfl, _⟩ := h
    rfl
  · obtain ⟨I, tt, x, dx, v, rs, rfl, hx, ix, ⟨a, vs, rfl, ha, hp⟩, hl, hv, sb, k⟩ := h
    refine ⟨_, (pss_cons (ps_if (pt_not (pt_val (pe_callB call_isiT (by rfl) T.b_isinstance (by decide +kernel) (pa_cons (pv 1) (pa_cons (pe_tup (pa_cons (pe_bltn (v := .ty "list") rfl T.b_list (by decide +kernel) rfl) (pa_cons (pe_bltn (v := .ty "tuple") rfl T.b_tuple (by decide +kernel) rfl) pa_nil))) pa_nil))))) (pss_one ps_never) pss_nil)
      (pss_cons (ps_for PassesOwn.never rfl (pi_enumS (by rfl) T.b_enumerate (pa_cons (pv 1) pa_nil)) (pg_tup (by rfl) (pgs_cons (pg_name (i := 2) sc_Link__init.nd rfl (Or.inl rfl)) (pgs_cons (pg_name (i := 3) sc_Link__init.nd rfl (Or.inl rfl)) pgs_nil))) (pss_one (ps_if (PW.pt (pw_or (pt_cmpR op_eq (pv 2) (pe_gint T.c_MOST_RIDES) (nomark _)) (pw_or1 (pt_not (pt_val (pe_callC G_is_ride (hr.mono (by decide)) T.g_is_ride (pa_cons (pv 3) pa_nil))))))) (pss_one ps_never) pss_nil)))
      (pss_one (ps_fld (pv 0) (pe_callC G_needed (hr.mono (by decide)) T.g_needed (pa_cons (pv 1) pa_nil)) rfl)))), ?_⟩
    have hlen := Nw.Paired.len hp
    refine ⟨_, rfl, by decide, fun p hp1 => ?_⟩
    obtain ⟨nty, hty, hkit⟩ := ty_seq (K := K) (t := tt) (H := upd H p (.tup [V.ty "list", V.ty "tuple"])) (a := a) (vs := vs) (by rw [upd_ne (ne_of_none (sb _ _ ha) hp1)]; exact sb _ _ ha)
    refine ⟨.ref a, p, _, _, _, true, rfl, upd_same, .cons (.ty _) (.cons (.ty _) .nil), hty, hkit, true, rfl, iteF ?_⟩
    have g1 : Grow (TX x) I H _ (upd H p (.tup [V.ty "list", V.ty "tuple"])) := Grow.new sb hp1
    have hx1 : upd H p (.tup [V.ty "list", V.ty "tuple"]) x = some (.ins (He.ga K "Link") dx []) := by rw [upd_ne (ne_of_none hx hp1)]; exact hx
    refine ⟨_, rfl, a, tt, vs, rfl, SqB.of (g1.sub _ _ (g1.view _ _ ha)), ?_⟩
    refine for_it walk_enumS (fun i σ H' => ∃ (I' : Hp) (v2 v3 : Option V), σ = [some (.ref x), some (.ref a), v2, v3] ∧ Grow No _ (upd H p (.tup [V.ty "list", V.ty "tuple"])) I' H') ⟨_, none, none, rfl, Grow.refl g1.sub⟩ (fun i σ H' _ ⟨I', _, _, _, g⟩ => SqB.of (g.same _ _ (g1.sub _ _ (g1.view _ _ ha)))) ?_ ?_
    · rintro i y σ H2 H3 hi ⟨I', v2, v3, rfl, g⟩ ⟨t, y1, y2, rfl, ht, rfl, e1, hy⟩
      cases e1
      obtain ⟨r, hr, hrep⟩ := Nw.Paired.at' hp hy
      have g2 := g.trans (Grow.new (T := No) (o := .tup [.int (i : Nat), y2]) g.sub ht)
      refine ⟨t, _, rfl, SqT.of upd_same, rfl, _, _, rfl, _, _, rfl, rfl, ?_⟩
      refine ⟨_, rfl, rfl, _, rfl, ?_⟩
      have hne : ¬ (V.int ((i : Nat) : Int) = V.int 60) := fun z => by
        have := V.int.inj z
        omega
      rw [decide_eq_false hne]
      refine iteF ?_
      refine ⟨_, rfl, _, y2, .sq true [.int r.1, .int r.2], rfl, ride_dt (Rep.mono (g1.view.trans g2.view) hrep), g2.sub, true, by show V.bl (decide (r.1 ≤ r.2)) = _; rw [decide_eq_true (hv r (List.mem_of_getElem? hr))], iteF ?_⟩
      exact ⟨_, _, _, rfl, g2⟩
    · rintro σ H2 ⟨I', v2, v3, rfl, g⟩
      have gx := g1.trans g.no
      refine ⟨_, rfl, I', tt, .ref a, rs, rfl, ⟨a, vs, rfl, gx.view _ _ ha, Paired.mono' (fun _ _ z => Rep.mono gx.view z) hp⟩, by omega, g.sub, fun ns t I3 H3 g3 hu hn => ?_⟩
      have g4 := gx.trans g3.no
      have hx3 : H3 x = some (.ins (He.ga K "Link") dx []) := g3.same _ _ (g.same _ _ hx1)
      have ix3 : I3 x = none := g4.fresh x ix (by rw [hx]; exact fun z => nomatch z)
      refine ⟨_, rfl, x, _, dx, _, rfl, hx3, T.cl_Link, T.na_Link_own_rides, (by show 0 < 1000; decide), ?_⟩
      refine k ns t I3 _ ⟨g4.view, fun b o e => ?_, fun b o n e => ?_, fun b e => upd_live (g4.live b e), g4.fresh, g4.tbl⟩ upd_same hu hn
      · rw [upd_ne (ne_of_none e ix3)]
        exact g4.sub b o e
      · rw [upd_ne n]
        exact g4.keep b o n e
theorem ok_Timetable__init (T : Txt K mg) (F : FnAt K "__init__" "Timetable.__init__" s_Timetable__init (He.ma K (He.ga K "Timetable") "__init__"))  : Ok P w K mg base CX0 1 (He.ma K (He.ga K "Timetable") "__init__") ["self", "links"] (sp_Timetable__init K) := by
  refine ok_of F sc_Timetable__init (fun _ _ _ _ _ _ us hl => match us, hl with | [_, _], _ => rfl) (fun vs H Q E h => ?_) (fun cdv A outer s H vs Q E hr h => ?_) 
  · obtain ⟨_, _, _, _, _, _, rfl, _⟩ := h
    rfl
  · obtain ⟨I, x, dx, p, kvs, tb, rfl, hx, hp, ix, ip, hlk, hne, h4, hin, sb, k⟩ := h
    refine ⟨_, (pss_cons (ps_if (PW.pt (pw_or (pt_not (pt_val (pe_callB call_isi (by rfl) T.b_isinstance (by decide +kernel) (pa_cons (pv 1) (pa_cons (pe_bltn (v := .ty "dict") rfl T.b_dict (by decide +kernel) rfl) pa_nil))))) (pw_or1 (pt_cmpR (op_eqDNil hr.units) (pv 1) pe_dnewK (nomark _))))) (pss_one ps_never) pss_nil)
      (pss_cons (ps_if (pt_not (pt_val (pe_callB (cr_all rfl) (by rfl) T.b_all (by decide +kernel) (pa_cons (pe_lock (pe_lc (own := [("letter", 2)]) (g := (gName 2)) rfl sc_Timetable__init.nd (pi_keys (pv 1)) (blkOk_by (own := [("letter", 2)]) (N := n_Timetable__init) (sc := defScope s_Timetable__init) (by decide +kernel)) (fun _ _ _ _ _ => (pg_name (i := 2) sc_Timetable__init.nd rfl (Or.inl rfl))) (fun _ _ _ _ _ => pts_nil) (fun _ _ _ _ _ => (pe_and (pe_callB (call_isiK (K := K) rfl) (by rfl) T.b_isinstance (by decide +kernel) (pa_cons (pv 2) (pa_cons (pe_bltn (v := .ty "str") rfl T.b_str (by decide +kernel) rfl) pa_nil))) (pe_and (pe_cmpR op_eq (pe_callB call_len_str (by rfl) T.b_len (by decide +kernel) (pa_cons (pv 2) pa_nil)) pe_int (nomark _)) (pe_one (pe_cmpR op_in_sign (pv 2) (pe_gstr T.c_LINKS) rfl))))))) pa_nil)))) (pss_one ps_never) pss_nil)
      (pss_cons (ps_if (pt_not (pt_val (pe_callB (cr_all rfl) (by rfl) T.b_all (by decide +kernel) (pa_cons (pe_lock (pe_lc (own := [("letter", 2)]) (g := (gName 2)) rfl sc_Timetable__init.nd (pi_keys (pv 1)) (blkOk_by (own := [("letter", 2)]) (N := n_Timetable__init) (sc := defScope s_Timetable__init) (by decide +kernel)) (fun _ _ _ _ _ => (pg_name (i := 2) sc_Timetable__init.nd rfl (Or.inl rfl))) (fun _ _ _ _ _ => pts_nil) (fun _ _ _ _ _ => (pe_callB (call_isiK (K := K) rfl) (by rfl) T.b_isinstance (by decide +kernel) (pa_cons (pe_dget (hu_of hr) (pv 1) (pv 2) (fun _ _ => rfl)) (pa_cons (pe_gref T.g_Link) pa_nil)))))) pa_nil)))) (pss_one ps_never) pss_nil)
      (pss_one (ps_fld (pv 0) (pe_dc (own := [("letter", 2)]) (g := (gName 2)) rfl sc_Timetable__init.nd (pi_str (pe_gstr T.c_LINKS)) (blkOk_by (own := [("letter", 2)]) (N := n_Timetable__init) (sc := defScope s_Timetable__init) (by decide +kernel)) (fun _ _ _ _ _ => (pg_name (i := 2) sc_Timetable__init.nd rfl (Or.inl rfl))) (fun _ _ _ _ _ => (pts_one (pt_cmp (pc_din (hu_of hr) (pv 2) (pv 1))))) (fun _ _ _ _ _ => (pv 2)) (fun _ _ _ _ _ => (pe_dget (hu_of hr) (pv 1) (pv 2) (fun _ _ => rfl)))) rfl))))), ?_⟩
    have nxp : x ≠ p := ne_of hx hp (by intro z; cases z)
    have hemp : (kvs.map kvS).isEmpty = false := by cases kvs with
      | nil => exact absurd rfl hne
      | cons a b => rfl
    -- links == {}
    refine ⟨_, rfl, .ref p, .ty "dict", _, _, true, rfl, .ty _, .base (.dK hp), kit_refl, true, rfl, iteF ?_⟩
    refine ⟨_, rfl, fun q hq => ⟨p, q, _, rfl, rfl, by rw [upd_ne (ne_of_none hp hq)]; exact hp, upd_same, _, rfl, ?_⟩⟩
    rw [hemp]
    refine iteF ?_
    have g1 : Grow (T2 x p) I H I (upd H q (.dK [])) := Grow.mine sb hq
    have hp1 : upd H q (.dK []) p = some (.dK (kvs.map kvS)) := by rw [upd_ne (ne_of_none hp hq)]; exact hp
    have hx1 : upd H q (.dK []) x = some (.ins (He.ga K "Timetable") dx []) := by rw [upd_ne (ne_of_none hx hq)]; exact hx
    -- the letters
    refine ⟨p, _, hp1, trivial, fun od => ?_⟩
    have g2 := g1.chg (o' := .frz od (.dK (kvs.map kvS))) (.inr rfl) ip
    refine ⟨_, rfl, p, od, rfl, .inl ⟨_, upd_same, fun L hL => ?_⟩⟩
    refine lc_pure (β := Bool) walk_keys kvs (fun q => some true) (by rw [List.length_map]) g2.sub hL (by rw [List.length_map]; omega) (fun I' H' g => g.keep _ _ (fun z => z) upd_same) ?_ ?_
    · rintro i q x' I' H2 H3 hq' g ⟨rfl, kk, vv, hkv, rfl⟩ Kn Ky kn ky
      obtain ⟨q2, hm, hq2, rfl, rfl⟩ := mem_keys hkv
      rw [hq'] at hq2
      cases hq2
      refine ⟨rfl, lc_yes ?_⟩
      refine ⟨_, rfl, .str (sg q.1), .ty "str", _, _, true, rfl, .ty _, .base (.str _), kit_refl, true, rfl, iteT ?_⟩
      refine ⟨_, rfl, sg q.1, rfl, by show 1 ≤ sizeLine; decide, rfl, true, rfl, iteT ?_⟩
      refine ⟨_, rfl, q.1, _, rfl, rfl, ?_⟩
      have e : decide (q.1 ∈ ("abcd" : Str).cps.toList) = true := by
        rw [links_list]
        exact decide_eq_true (hin q hm)
      rw [e]
      exact ky true rfl _ I' H3 (Grow.refl g.sub) rfl
    intro I1 H1 vs1 g3 ow hp3
    have e1 := Paired.bls hp3
    rw [fm_some] at e1
    subst e1
    have g4 := g2.trans g3.no
    have hp4 : H1 p = some (.frz od (.dK (kvs.map kvS))) := g3.keep _ _ (fun z => z) upd_same
    have hx4 : H1 x = some (.ins (He.ga K "Timetable") dx []) := g3.keep _ _ (fun z => z) (by rw [upd_ne nxp]; exact hx1)
    have ip1 : I1 p = none := g4.fresh p ip (by rw [hp]; exact fun z => nomatch z)
    have nLp : L ≠ p := (ne_of_none upd_same hL).symm
    refine ⟨hp4, L, _, rfl, SqL.of (by rw [upd_ne nLp]; exact ow.at_), ?_⟩
    have eall : ∀ l : List (Nat × V), (l.map fun _ => true).all id = true := fun l => by induction l with
      | nil => rfl
      | cons a r ih => rw [List.map_cons, List.all_cons, ih]; rfl
    rw [eall]
    refine ⟨true, rfl, iteF ?_⟩
    have g5 := g4.chg (o' := .dK (kvs.map kvS)) (.inr rfl) ip1
    have hx5 : upd H1 p (.dK (kvs.map kvS)) x = some (.ins (He.ga K "Timetable") dx []) := by rw [upd_ne nxp]; exact hx4
    -- the links
    refine ⟨p, _, upd_same, trivial, fun od2 => ?_⟩
    have g6 := g5.chg (o' := .frz od2 (.dK (kvs.map kvS))) (.inr rfl) ip1
    refine ⟨_, rfl, p, od2, rfl, .inl ⟨_, upd_same, fun M hM => ?_⟩⟩
    refine lc_pure (β := Bool) walk_keys kvs (fun q => some true) (by rw [List.length_map]) g6.sub hM (by rw [List.length_map]; omega) (fun I' H' g => g.keep _ _ (fun z => z) upd_same) ?_ ?_
    · rintro i q x' I' H2 H3 hq' g ⟨rfl, kk, vv, hkv, rfl⟩ Kn Ky kn ky
      obtain ⟨q2, hm, hq2, rfl, rfl⟩ := mem_keys hkv
      rw [hq'] at hq2
      cases hq2
      refine ⟨rfl, lc_yes ?_⟩
      have hfz : H3 p = some (.frz od2 (.dK (kvs.map kvS))) := g.keep _ _ (fun z => z) upd_same
      have hget : DGet H3 p (.str (sg q.1)) (lookT kvs q.1) := .inl ⟨_, .inr (sg q.1), .inr ⟨_, hfz⟩, rfl, (valV_S q.1 kvs).symm⟩
      rcases look_link (c := q.1) (hlk.up (g6.view.trans g.view)) with ⟨h1, _⟩ | ⟨v', ns, h1, _, la, ldx, t, rfl, hla, hu⟩
      · obtain ⟨r, hr⟩ := look_mem hm
        rw [hr] at h1; cases h1
      · rw [h1] at hget
        refine ⟨_, rfl, _, rfl, p, _, rfl, hget, .ref la, .ref (He.ga K "Link"), _, _, true, rfl, .own _, T.is_Link.ty T.cl_Link (g.sub _ _ hla), kit_self, ?_⟩
        exact ky true rfl _ I' H3 (Grow.refl g.sub) rfl
    intro I2 H2 vs2 g7 ow2 hp6
    have e2 := Paired.bls hp6
    rw [fm_some] at e2
    subst e2
    have g8 := g6.trans g7.no
    have hp8 : H2 p = some (.frz od2 (.dK (kvs.map kvS))) := g7.keep _ _ (fun z => z) upd_same
    have hx8 : H2 x = some (.ins (He.ga K "Timetable") dx []) := g7.keep _ _ (fun z => z) (by rw [upd_ne nxp]; exact hx5)
    have ip2 : I2 p = none := g8.fresh p ip (by rw [hp]; exact fun z => nomatch z)
    have ix2 : I2 x = none := g8.fresh x ix (by rw [hx]; exact fun z => nomatch z)
    have nMp : M ≠ p := (ne_of_none upd_same hM).symm
    refine ⟨hp8, M, _, rfl, SqL.of (by rw [upd_ne nMp]; exact ow2.at_), ?_⟩
    rw [eall]
    refine ⟨true, rfl, iteF ?_⟩
    have g9 := g8.chg (o' := .dK (kvs.map kvS)) (.inr rfl) ip2
    have hx9 : upd H2 p (.dK (kvs.map kvS)) x = some (.ins (He.ga K "Timetable") dx []) := by rw [upd_ne nxp]; exact hx8
    -- the own dict
    refine ⟨_, rfl, fun D hD => ?_⟩
    have hT : ∀ b, T2 x p b → upd H2 p (.dK (kvs.map kvS)) b ≠ none := fun b t => by
      rcases t with rfl | rfl
      · rw [hx9]; exact fun z => nomatch z
      · rw [upd_same]; exact fun z => nomatch z
    refine dc_it (walk_str (z := "abcd")) (fun i H' => ∃ I' res, Grow (T2 x p) I H I' H' ∧ Own (T2 x p) H D (.dK (res.map kvS)) I' H' ∧ H' p = some (.dK (kvs.map kvS)) ∧ H' x = some (.ins (He.ga K "Timetable") dx []) ∧ linksP K I' res ((linksL.take i).filterMap fun c => (lookT tb c).map fun r => (c, r)) ∧ res.length ≤ i)
      ⟨I2, [], g9.trans (Grow.mine g9.sub hD), Own.new g9.sub (.inr g9.live) hT hD, by rw [upd_ne (ne_of_none upd_same hD)]; exact upd_same, by rw [upd_ne (ne_of_none hx9 hD)]; exact hx9, .nil, Nat.le_refl _⟩ (fun _ _ _ _ => trivial) ?_ ?_
    · rintro i y H3 H4 hi ⟨I', res, g10, owD, hp10, hx10, hr, hrl⟩ ⟨rfl, c, hc, rfl⟩
      have hc' : linksL[i]? = some c := by
        have e : ("abcd" : Str).cps.toList = linksL := links_list
        rw [← e]
        simpa using hc
      have et : linksL.take (i + 1) = linksL.take i ++ [c] := by rw [List.take_add_one, hc']; rfl
      rw [et, List.filterMap_append]
      have hget : DGet H4 p (.str (sg c)) (lookT kvs c) := .inl ⟨_, .inr (sg c), .inl hp10, rfl, (valV_S c kvs).symm⟩
      refine ⟨rfl, _, rfl, _, rfl, p, _, rfl, hget, ?_⟩
      rcases look_link (c := c) (hlk.up g10.view) with ⟨h1, h2⟩ | ⟨v', ns, h1, h2, hlink⟩
      · rw [h1]
        refine ⟨false, rfl, iteF ⟨I', res, g10, owD, hp10, hx10, ?_, by omega⟩⟩
        rw [List.filterMap_cons, h2]
        simpa using hr
      · rw [h1] at hget ⊢
        refine ⟨true, rfl, iteT ⟨_, rfl, _, rfl, _, rfl, p, _, rfl, hget, res.map kvS, .inr (sg c), rfl, owD.at_, by rw [List.length_map, sizeLine_eq]; have hi4 : i < 4 := hi; omega, ?_⟩⟩
        have enew : putK (res.map kvS) (.inr (sg c)) v' = (res ++ [(c, v')]).map kvS := by
          rw [List.map_append]
          refine putK_new ?_
          intro z
          obtain ⟨q, hq, e⟩ := List.mem_map.mp z
          obtain ⟨q2, hq2, rfl⟩ := List.mem_map.mp hq
          have ec : q2.1 = c := mk_inj (a := [q2.1]) (b := [c]) (Sum.inr.inj e) |> List.cons.inj |>.1
          have hk : q2.1 ∈ res.map (·.1) := List.mem_map.mpr ⟨q2, hq2, rfl⟩
          rw [hr.keys, ec] at hk
          obtain ⟨q3, hq3, e3⟩ := List.mem_map.mp hk
          obtain ⟨c2, hc2, e4⟩ := List.mem_filterMap.mp hq3
          have hcc : c ∈ linksL.take i := by
            cases e5 : lookT tb c2 with
            | none => rw [e5] at e4; cases e4
            | some r5 => rw [e5] at e4; cases e4; rw [← e3]; exact hc2
          have hi4 : i < 4 := hi
          match i, hi4, hc', hcc with
          | 0, _, hc', hcc => simp at hcc
          | 1, _, hc', hcc => simp [linksL] at hc' hcc; omega
          | 2, _, hc', hcc => simp [linksL] at hc' hcc; omega
          | 3, _, hc', hcc => simp [linksL] at hc' hcc; omega
        rw [enew]
        have nDp : p ≠ D := fun z => owD.nt (.inr z.symm)
        have nDx : x ≠ D := fun z => owD.nt (.inl z.symm)
        refine ⟨I', _, g10.put owD, owD.put, by rw [upd_ne nDp]; exact hp10, by rw [upd_ne nDx]; exact hx10, ?_, by rw [List.length_append]; exact Nat.succ_le_succ hrl⟩
        rw [List.filterMap_cons, h2]
        exact Nw.Paired.snoc hr ⟨rfl, hlink⟩
    · rintro H3 ⟨I', res, g10, owD, hp10, hx10, hr, hrl⟩
      have nDx : x ≠ D := fun z => owD.nt (.inl z.symm)
      have ix3 : I' x = none := g10.fresh x ix (by rw [hx]; exact fun z => nomatch z)
      refine ⟨_, rfl, x, _, dx, _, rfl, hx10, T.cl_Timetable, T.na_Timetable_own_links, by decide, ?_⟩
      have g11 := (g10.give owD).chg (o' := .ins (He.ga K "Timetable") dx [("own_links", .ref D)]) (.inl rfl) (by rw [upd_ne nDx]; exact ix3)
      have eord : (linksL.take ("abcd" : Str).cps.size).filterMap (fun c => (lookT tb c).map fun r => (c, r)) = orderT tb := rfl
      rw [eord] at hr
      exact k D res _ _ g11 upd_same upd_same (hr.up (Same.up owD.ni))
end
end Nw

namespace Nw
open PySem PySem.Spec PyProof.Rows L2
/-! ### ends and begins by the law, at any moment; the law's own messages -/
def IsEnd (rs : Rides) (t e : Int) : Prop := (∃ r ∈ rs, t ≤ r.1 ∧ r.2 = e) ∧ ∀ q ∈ rs, t ≤ q.1 → e ≤ q.2
structure Drawn (I : Hp) (l : List Nat) (ps : List (V × Ms)) (R : Nat → Rides) : Prop where
  is : ∀ q ∈ ps, isMs I q.1 q.2
  letter : ∀ q ∈ ps, q.2.1 ∈ l
  small : ∀ q ∈ ps, q.2.2.1.natAbs ≤ 1000 ∧ q.2.2.2.natAbs ≤ 1000
  ends : ∀ q ∈ ps, IsEnd (R q.2.1) q.2.2.1 q.2.2.2
  ride : ∀ c, ∀ r ∈ R c, r.1 ≤ r.2
theorem cd62 : CDiv 6 2 := by unfold CDiv; decide
theorem pick5 {j : Nat} {x : V} (h : [V.int 0, V.int 1, V.int 1, V.int 2, V.int 3][j]? = some x) : ∃ z, x = .int z ∧ 0 ≤ z ∧ z ≤ 3 := by
  have z := List.mem_of_getElem? h
  simp only [List.mem_cons, List.not_mem_nil, or_false] at z
  rcases z with rfl | rfl | rfl | rfl | rfl
  · exact ⟨0, rfl, by decide, by decide⟩
  · exact ⟨1, rfl, by decide, by decide⟩
  · exact ⟨1, rfl, by decide, by decide⟩
  · exact ⟨2, rfl, by decide, by decide⟩
  · exact ⟨3, rfl, by decide, by decide⟩
theorem pick5b {j : Nat} {x : V} (h : [V.int 0, V.int 0, V.int 1, V.int 2, V.int 3][j]? = some x) : ∃ z, x = .int z ∧ 0 ≤ z ∧ z ≤ 3 := by
  have z := List.mem_of_getElem? h
  simp only [List.mem_cons, List.not_mem_nil, or_false] at z
  rcases z with rfl | rfl | rfl | rfl | rfl
  · exact ⟨0, rfl, by decide, by decide⟩
  · exact ⟨0, rfl, by decide, by decide⟩
  · exact ⟨1, rfl, by decide, by decide⟩
  · exact ⟨2, rfl, by decide, by decide⟩
  · exact ⟨3, rfl, by decide, by decide⟩
def placeM : Mom → Int
  | .first => 0 - 10 ^ 45
  | .last => 10 ^ 45
  | .num t => t
theorem cp10 (k : Int) (h0 : 0 ≤ k) (h : k ≤ 100) : CPow 10 k := ⟨h0, by omega, by decide⟩
def sp_l_end (K : PySem.W.Frag) : Sp := fun vs H Q _ => ∃ (I : Hp) (p : Addr) (ws : List V) (rs : Rides) (m : Mom), vs = [.ref p, m.v] ∧ Same I H ∧ H p = some (.lst ws) ∧ Paired (Rep.is I) ws rs ∧ rs.length ≤ 100000 ∧ ∀ I' H', Grow No I H I' H' → Q (endsF rs m).2.v H'
def sp_l_begin (K : PySem.W.Frag) : Sp := fun vs H Q _ => ∃ (I : Hp) (p : Addr) (ws : List V) (rs : Rides) (m : Mom), vs = [.ref p, m.v] ∧ Same I H ∧ H p = some (.lst ws) ∧ Paired (Rep.is I) ws rs ∧ rs.length ≤ 100000 ∧ ∀ I' H', Grow No I H I' H' → Q (begF rs m).1.v H'
def sp_l_far (K : PySem.W.Frag) : Sp := fun vs H Q _ => ∃ (I : Hp) (D : DA) (n : Nat), vs = [.ref D.d] ∧ Drw D n I H ∧ n + 2 < lim ∧ ∀ (z : Int) I' H', z.natAbs ≤ 10 ^ 38 → Grow (TD D) I H I' H' → Drw D (n + 2) I' H' → Q (.int z) H'
theorem late_mem {rs : Rides} {t e : Int} : e ∈ (rs.filterMap fun r => if r.1 ≥ t then some r.2 else none) ↔ ∃ r ∈ rs, t ≤ r.1 ∧ r.2 = e := by
  rw [List.mem_filterMap]
  constructor
  · rintro ⟨r, hr, h⟩
    split at h
    · cases h
      exact ⟨r, hr, by assumption, rfl⟩
    · cases h
  · rintro ⟨r, hr, h, rfl⟩
    exact ⟨r, hr, if_pos h⟩
theorem early_mem {rs : Rides} {t e : Int} : e ∈ (rs.filterMap fun r => if r.2 ≤ t then some r.1 else none) ↔ ∃ r ∈ rs, r.2 ≤ t ∧ r.1 = e := by
  rw [List.mem_filterMap]
  constructor
  · rintro ⟨r, hr, h⟩
    split at h
    · cases h
      exact ⟨r, hr, by assumption, rfl⟩
    · cases h
  · rintro ⟨r, hr, h, rfl⟩
    exact ⟨r, hr, if_pos h⟩
theorem end_is {rs : Rides} {t : Int} (h : ∃ r ∈ rs, t ≤ r.1) : ∃ e, (endsF rs (.num t)).2 = .num e ∧ IsEnd rs t e := by
  have hm := @late_mem rs t
  show ∃ e, numLate (rs.filterMap fun r => if r.1 ≥ t then some r.2 else none) = .num e ∧ _
  generalize (rs.filterMap fun r => if r.1 ≥ t then some r.2 else none) = es at hm
  cases es with
  | nil =>
    obtain ⟨r, hr, h⟩ := h
    exact nomatch (hm (e := r.2)).mpr ⟨r, hr, h, rfl⟩
  | cons e l => exact ⟨minL e l, rfl, hm.mp (minL_mem l e), fun q hq hz => by
      rcases List.mem_cons.mp (hm.mpr ⟨q, hq, hz, rfl⟩) with z | z
      · rw [z]; exact (minL_le l e).1
      · exact (minL_le l e).2 _ z⟩
section
variable {P : Program} {w : World} {K : PySem.W.Frag} {mg : Str → Option Value} {base : Heap}
theorem ok_l_end (T : Txt K mg) (F : FnAt K "_law_end" "_law_end" s_l_end (He.ga K "_law_end"))  : Ok P w K mg base CX0 1 (He.ga K "_law_end") ["_law_rides_here", "_law_moment"] (sp_l_end K) := by
  refine ok_of F sc_l_end (fun _ _ _ _ _ _ us hl => match us, hl with | [_, _], _ => rfl) (fun vs H Q E h => ?_) (fun cdv A outer s H vs Q E hr h => ?_)
  · obtain ⟨_, _, _, _, _, rfl, _⟩ := h
    rfl
  · obtain ⟨I, a, vs, rs, m, rfl, sb, ha, hp, hz, k⟩ := h
    refine ⟨_, (pss_cons (ps_if (pt_cmpR op_in_seq (pv 1) (pe_tup (pa_cons pe_str (pa_cons pe_str pa_nil))) (by with_unfolding_all rfl)) (pss_one (ps_ret (pv 1))) pss_nil)
      (pss_cons (ps_setLc (i := 2) (own := [("_law_begin", 3), ("_law_end_here", 4)]) (g := (gTup K 2 (gCons (gName 3) (gCons (gName 4) gNil)))) rfl sc_l_end.nd rfl rfl (sw_true rfl rfl rfl (by decide +kernel)) (pi_list (pv 0)) (blkOk_by (own := [("_law_begin", 3), ("_law_end_here", 4)]) (N := n_l_end) (sc := defScope s_l_end) (by decide +kernel)) (fun _ _ _ _ _ => (pg_tup (by rfl) (pgs_cons (pg_name (i := 3) sc_l_end.nd rfl (Or.inl rfl)) (pgs_cons (pg_name (i := 4) sc_l_end.nd rfl (Or.inl rfl)) pgs_nil)))) (fun _ _ _ _ _ => (pts_one (pt_cmpR op_ge (pv 3) (pv 1) (nomark _)))) (fun _ _ _ _ _ => (pv 4)))
      (pss_one (ps_ret (pe_ifExp (pt_cmpR (op_neNil hr.units) (pv 2) (pe_lst pa_nil) (nomark _)) (pe_ix ix_list (pe_callB cr_sortedI (by rfl) T.b_sorted (by decide +kernel) (pa_cons (pe_lc (own := [("_law_end_here", 4)]) (g := (gName 4)) rfl sc_l_end.nd (pi_list (pv 2)) (blkOk_by (own := [("_law_end_here", 4)]) (N := n_l_end) (sc := defScope s_l_end) (by decide +kernel)) (fun _ _ _ _ _ => (pg_name (i := 4) sc_l_end.nd rfl (Or.inl rfl))) (fun _ _ _ _ _ => pts_nil) (fun _ _ _ _ _ => (pe_callTy call_int1 (by rfl) T.b_int (by decide +kernel) (pa_cons (pv 4) pa_nil)))) pa_nil)) pe_int (fun _ _ => rfl)) pe_str))))), ?_⟩
    refine ⟨_, rfl, by decide, fun p hp1 => ⟨p, _, rfl, .inr (SqT.of upd_same), m.flat, rfl, _, rfl, ?_⟩⟩
    have g1 : Grow No I H _ (upd H p (.tup [V.str "first", V.str "last"])) := Grow.new sb hp1
    match m, k with
    | .first, k => exact iteT ⟨_, rfl, k _ _ g1⟩
    | .last, k => exact iteT ⟨_, rfl, k _ _ g1⟩
    | .num t, k =>
      refine iteF ⟨_, rfl, a, rfl, ⟨_, SqL.of (g1.same _ _ ha)⟩, fun L hL => ?_⟩
      refine lc_pure (β := Int) walk_list rs (fun r => if r.1 ≥ t then some r.2 else none) (Nw.Paired.len hp).symm g1.sub hL (by rw [Nw.Paired.len hp]; omega) (fun I' H' g => SqL.of (g.same _ _ (g1.same _ _ ha))) ?_ ?_
      · rintro i r x I' H' H'' hr g ⟨rfl, hx⟩ Kn Ky kn ky
        obtain ⟨x', hx', b, v1, v2, rfl, hb, h1, h2⟩ := Nw.Paired.at hp hr
        rw [hx] at hx'
        cases hx'
        cases h1
        cases h2
        refine ⟨b, _, rfl, SqT.of (g.sub _ _ (g.view _ _ (g1.view _ _ hb))), rfl, _, _, rfl, _, _, rfl, rfl, rfl, ?_⟩
        refine ⟨_, rfl, _, rfl, _, _, rfl, rfl, _, rfl, ?_⟩
        refine ite2 (fun c => ?_) (fun c => ?_)
        · exact ⟨_, rfl, ky _ (if_pos (of_decide_eq_true c)) _ I' H'' (Grow.refl g.sub) rfl⟩
        · exact kn (if_neg (fun z => c (decide_eq_true z))) I' H'' (Grow.refl g.sub)
      · intro I2 H2 vs2 g2 ow hp2
        have e := Paired.ints hp2
        subst e
        have hmem : ∀ e, e ∈ rs.filterMap (fun r => if r.1 ≥ t then some r.2 else none) ↔ ∃ r ∈ rs, t ≤ r.1 ∧ r.2 = e := fun e => by
          rw [List.mem_filterMap]
          constructor
          · rintro ⟨r, hr, h⟩
            split at h
            · cases h
              exact ⟨r, hr, by assumption, rfl⟩
            · cases h
          · rintro ⟨r, hr, h, rfl⟩
            exact ⟨r, hr, if_pos h⟩
        have hle : (rs.filterMap (fun r => if r.1 ≥ t then some r.2 else none)).length ≤ rs.length := List.length_filterMap_le _ _
        have hk : (endsF rs (.num t)).2 = numLate (rs.filterMap fun r => if r.1 ≥ t then some r.2 else none) := rfl
        rw [hk] at k
        clear hmem hk
        revert hle ow hp2 k
        generalize rs.filterMap (fun r => if r.1 ≥ t then some r.2 else none) = es
        intro k ow hp2 hle
        refine ⟨_, rfl, by decide, fun q hq => ⟨L, q, _, rfl, rfl, SqL.of (by rw [upd_ne (ne_of_none ow.at_ hq)]; exact ow.at_), SqL.of upd_same, _, rfl, ?_⟩⟩
        have gq := Grow.mine (T := No) (o := .lst []) g2.sub hq
        have g3 := (g1.trans g2).trans gq
        have ow3 := ow.grow gq
        cases es with
        | nil => exact iteF (k _ _ g3)
        | cons e r =>
          refine iteT ⟨_, rfl, L, rfl, ⟨_, SqL.of ow3.at_⟩, fun M hM => ?_⟩
          refine lc_pure (β := Int) walk_list (e :: r) (fun e => some e) (by rw [List.length_map]) g3.sub hM (by rw [List.length_map]; omega) (fun I' H' g => SqL.of (g.same _ _ ow3.at_)) ?_ ?_
          · rintro i r x I' H' H'' hr g ⟨rfl, hx⟩ Kn Ky kn ky
            obtain ⟨r', hr', rfl⟩ := getI hx
            rw [hr] at hr'
            cases hr'
            exact ⟨rfl, lc_yes ⟨_, rfl, .inl ⟨_, rfl, ky _ rfl _ I' H'' (Grow.refl g.sub) rfl⟩⟩⟩
          · intro I4 H4 vs4 g4 ow4 hp4
            have e4 := Paired.ints hp4
            rw [fm_some, List.map_id'] at e4
            subst e4
            refine ⟨M, _, rfl, SqL.of ow4.at_, fun ks p perm rising hpn => ?_⟩
            have g5 := (g3.trans g4).trans (Grow.mine (T := No) (o := .lst (ks.map V.int)) g4.sub hpn)
            cases ks with
            | nil => exact nomatch perm.length_eq
            | cons y ys =>
              have hy : y ∈ e :: r := perm.mem_iff.mp (List.mem_cons_self ..)
              have hmin : ∀ z ∈ e :: r, y ≤ z := fun z hz => by
                rcases List.mem_cons.mp (perm.mem_iff.mpr hz) with rfl | h
                · exact Int.le_refl _
                · exact (List.pairwise_cons.mp rising).1 z h
              cases min_uniq hy hmin
              exact ⟨p, _, 0, .int _, rfl, rfl, SqL.of upd_same, (by rw [atI_nat' (j := 0) (by decide)]; rfl), k _ _ g5⟩
end
end Nw

namespace Nw
open PySem PySem.Spec PyProof.Rows L2
/-! ### what the law looks at: rides of a letter, its own bounds, what can be an end or a begin -/
def sp_l_rides_of (K : PySem.W.Frag) : Sp := fun vs H Q _ => ∃ (I : Hp) (p : Addr) (ws : List V) (ms : List Ms) (c : Nat), vs = [.ref p, .str (sg c)] ∧ Same I H ∧ I p = some (.lst ws) ∧ Paired (isMs I) ws ms ∧ ms.length ≤ 1000 ∧ ∀ v' I' H', Grow No I H I' H' → isL I' v' (ridesL ms c) → Q v' H'
def sp_l_ends_of (K : PySem.W.Frag) : Sp := fun vs H Q _ => ∃ (I : Hp) (p : Addr) (ws : List V) (rs : Rides) (m : Mom), vs = [.ref p, m.v] ∧ Same I H ∧ I p = some (.lst ws) ∧ Paired (Rep.is I) ws rs ∧ rs.length ≤ 100000 ∧ ∀ v' I' H', Grow No I H I' H' → isMM I' v' (endsF rs m) → Q v' H'
def sp_l_begins_of (K : PySem.W.Frag) : Sp := fun vs H Q _ => ∃ (I : Hp) (p : Addr) (ws : List V) (rs : Rides) (m : Mom), vs = [.ref p, m.v] ∧ Same I H ∧ I p = some (.lst ws) ∧ Paired (Rep.is I) ws rs ∧ rs.length ≤ 100000 ∧ ∀ v' I' H', Grow No I H I' H' → isMM I' v' (begF rs m) → Q v' H'
def hasF (rs xs : Rides) : Bool := xs.all fun r => decide ((endsF rs (.num r.1)).2 = .num r.2)
def sp_l_has (K : PySem.W.Frag) : Sp := fun vs H Q _ => ∃ (I : Hp) (p q : Addr) (ws us : List V) (rs xs : Rides), vs = [.ref p, .ref q] ∧ Same I H ∧ H p = some (.lst ws) ∧ Paired (Rep.is I) ws rs ∧ rs.length ≤ 100000 ∧ I q = some (.lst us) ∧ Paired (Rep.is I) us xs ∧ xs.length ≤ 100000 ∧ ∀ I' H', Grow No I H I' H' → Q (.bl (hasF rs xs)) H'
def canE (rs : Rides) (t : Int) : Mom → Bool
  | .num e => decide (t ≤ e) && (hasF (rs ++ [(t, e)]) rs && decide ((endsF (rs ++ [(t, e)]) (.num t)).2 = .num e))
  | m => hasF rs rs && decide ((endsF rs (.num t)).2 = m)
def canB (rs : Rides) (t : Int) : Mom → Bool
  | .num b => decide (b ≤ t) && (hasF (rs ++ [(b, t)]) rs && decide ((begF (rs ++ [(b, t)]) (.num t)).1 = .num b))
  | m => hasF rs rs && decide ((begF rs (.num t)).1 = m)
def sp_l_can_end (K : PySem.W.Frag) : Sp := fun vs H Q _ => ∃ (I : Hp) (p : Addr) (ws : List V) (rs : Rides) (t : Int) (m : Mom), vs = [.ref p, .int t, m.v] ∧ Same I H ∧ I p = some (.lst ws) ∧ Paired (Rep.is I) ws rs ∧ rs.length ≤ 1000 ∧ m ≠ .first ∧ ∀ I' H', Grow No I H I' H' → Q (.bl (canE rs t m)) H'
def sp_l_can_begin (K : PySem.W.Frag) : Sp := fun vs H Q _ => ∃ (I : Hp) (p : Addr) (ws : List V) (rs : Rides) (t : Int) (m : Mom), vs = [.ref p, .int t, m.v] ∧ Same I H ∧ I p = some (.lst ws) ∧ Paired (Rep.is I) ws rs ∧ rs.length ≤ 1000 ∧ m ≠ .last ∧ ∀ I' H', Grow No I H I' H' → Q (.bl (canB rs t m)) H'
def betw (a b m : Mom) : Bool := decide (placeM a ≤ placeM m) && decide (placeM m ≤ placeM b)
def sp_l_between (K : PySem.W.Frag) : Sp := fun vs H Q _ => ∃ (I : Hp) (a b m : Mom), vs = [a.v, b.v, m.v] ∧ Same I H ∧ ∀ I' H', Grow No I H I' H' → Q (.bl (betw a b m)) H'
theorem head_min {t : Int} {es ks : List Int} (perm : ks.Perm (t :: es)) (rising : ks.Pairwise (· ≤ ·)) : ∃ ys, ks = minL t es :: ys := by
  cases ks with
  | nil => exact nomatch perm.length_eq
  | cons y ys =>
    have hy : y ∈ t :: es := perm.mem_iff.mp (List.mem_cons_self ..)
    have hmin : ∀ z ∈ t :: es, y ≤ z := fun z hz => by
      rcases List.mem_cons.mp (perm.mem_iff.mpr hz) with rfl | h
      · exact Int.le_refl _
      · exact (List.pairwise_cons.mp rising).1 z h
    exact ⟨ys, by rw [min_uniq hy hmin]⟩
theorem last_max {t : Int} {es ks : List Int} (perm : ks.Perm (t :: es)) (rising : ks.Pairwise (· ≤ ·)) : ∃ ys, ks = ys ++ [maxL t es] := by
  rcases List.eq_nil_or_concat ks with rfl | ⟨ys, y, rfl⟩
  · exact nomatch perm.length_eq
  · rw [List.concat_eq_append] at perm rising ⊢
    have hy : y ∈ t :: es := perm.mem_iff.mp (List.mem_append_right _ (List.mem_singleton.mpr rfl))
    have hmax : ∀ z ∈ t :: es, z ≤ y := fun z hz => by
      rcases List.mem_append.mp (perm.mem_iff.mpr hz) with h | h
      · exact (List.pairwise_append.mp rising).2.2 z h y (List.mem_singleton.mpr rfl)
      · rw [List.mem_singleton] at h; rw [h]; exact Int.le_refl _
    exact ⟨ys, by rw [max_uniq hy hmax]⟩
section
variable {P : Program} {w : World} {K : PySem.W.Frag} {mg : Str → Option Value} {base : Heap}
end
end Nw

namespace Nw
open PySem PySem.Spec PyProof.Rows L2
/-! ### a link of a timetable, asked for an end -/
def endedL (rs : Rides) : Mom → Mom
  | .num t => match rs.filterMap (fun r => if r.1 ≥ t then some r.2 else none) with
    | [] => .last
    | e :: _ => .num e
  | m => m
def begunL (rs : Rides) : Mom → Mom
  | .num t => match (rs.filterMap (fun r => if r.2 ≤ t then some r.1 else none)).reverse with
    | [] => .first
    | b :: _ => .num b
  | m => m
def sp_ended (K : PySem.W.Frag) : Sp := fun vs H Q _ => ∃ (I : Hp) (v : V) (rs : Rides) (m : Mom), vs = [v, m.v] ∧ isU I v rs ∧ rs.length ≤ 100000 ∧ Same I H ∧ ∀ I' H', Grow No I H I' H' → Q (endedL rs m).v H'
def sp_Link_end (K : PySem.W.Frag) : Sp := fun vs H Q _ => ∃ (I : Hp) (v : V) (ns : Rides) (m : Mom), vs = [v, m.v] ∧ isLink K I v ns ∧ ns.length ≤ 100000 ∧ Same I H ∧ ∀ I' H', Grow No I H I' H' → Q (endedL ns m).v H'
def sp_Timetable__getitem (K : PySem.W.Frag) : Sp := fun vs H Q _ => ∃ (a dx d : Addr) (kvs : List (Nat × V)) (c : Nat) (v : V), vs = [.ref a, .str (sg c)] ∧ H a = some (.ins (He.ga K "Timetable") dx [("own_links", .ref d)]) ∧ H d = some (.dK (kvs.map kvS)) ∧ lookT kvs c = some v ∧ Q v H
theorem look_at {α : Type} : ∀ {kvs : List (Nat × α)} {j c : Nat} {v : α}, (kvs.map (·.1)).Nodup → kvs[j]? = some (c, v) → lookT kvs c = some v
  | p :: kvs, 0, c, v, _, e => by
    cases e
    unfold lookT
    rw [List.find?_cons_of_pos (by exact decide_eq_true rfl)]
    rfl
  | p :: kvs, j + 1, c, v, nd, e => by
    rw [List.map_cons, List.nodup_cons] at nd
    have h := look_at (j := j) nd.2 e
    have hm : c ∈ kvs.map (·.1) := List.mem_map.mpr ⟨(c, v), List.mem_of_getElem? e, rfl⟩
    have hne : p.1 ≠ c := fun z => nd.1 (z ▸ hm)
    unfold lookT at h ⊢
    rw [List.find?_cons_of_neg (by rw [decide_eq_false hne]; exact Bool.false_ne_true)]
    exact h
section
variable {P : Program} {w : World} {K : PySem.W.Frag} {mg : Str → Option Value} {base : Heap}
theorem ok_ended (T : Txt K mg) (F : FnAt K "ended" "ended" s_ended (He.ga K "ended"))  : Ok P w K mg base CX0 1 (He.ga K "ended") ["rides", "moment"] (sp_ended K) := by
  refine ok_of F sc_ended (fun _ _ _ _ _ _ us hl => match us, hl with | [_, _], _ => rfl) (fun vs H Q E h => ?_) (fun cdv A outer s H vs Q E hr h => ?_)
  · obtain ⟨_, _, _, _, rfl, _⟩ := h
    rfl
  · obtain ⟨I, v, rs, m, rfl, ⟨a, vs, rfl, ha, hp⟩, hz, sb, k⟩ := h
    refine ⟨_, (pss_cons (ps_if (pt_cmpR op_in_seq (pv 1) (pe_tup (pa_cons (pe_gstr T.c_FIRST) (pa_cons (pe_gstr T.c_LAST) pa_nil))) (by with_unfolding_all rfl)) (pss_one (ps_ret (pv 1))) pss_nil)
      (pss_cons (ps_setLc (i := 2) (own := [("begin", 3), ("end", 4)]) (g := (gTup K 2 (gCons (gName 3) (gCons (gName 4) gNil)))) rfl sc_ended.nd rfl rfl (sw_true rfl rfl rfl (by decide +kernel)) (pi_tup (pv 0)) (blkOk_by (own := [("begin", 3), ("end", 4)]) (N := n_ended) (sc := defScope s_ended) (by decide +kernel)) (fun _ _ _ _ _ => (pg_tup (by rfl) (pgs_cons (pg_name (i := 3) sc_ended.nd rfl (Or.inl rfl)) (pgs_cons (pg_name (i := 4) sc_ended.nd rfl (Or.inl rfl)) pgs_nil)))) (fun _ _ _ _ _ => (pts_one (pt_cmpR op_ge (pv 3) (pv 1) (nomark _)))) (fun _ _ _ _ _ => (pv 4)))
      (pss_one (ps_ret (pe_ifExp (pt_cmpR (op_neNil hr.units) (pv 2) (pe_lst pa_nil) (nomark _)) (pe_ix ix_list (pv 2) pe_int (fun _ _ => rfl)) (pe_gstr T.c_LAST)))))), ?_⟩
    refine ⟨_, rfl, by decide, fun p hp1 => ⟨p, _, rfl, .inr (SqT.of upd_same), m.flat, rfl, _, rfl, ?_⟩⟩
    have g1 : Grow No I H _ (upd H p (.tup [V.str "first", V.str "last"])) := Grow.new sb hp1
    match m, k with
    | .first, k => exact iteT ⟨_, rfl, k _ _ g1⟩
    | .last, k => exact iteT ⟨_, rfl, k _ _ g1⟩
    | .num t, k =>
      refine iteF ⟨_, rfl, a, rfl, ⟨_, SqT.of (g1.sub _ _ (g1.view _ _ ha))⟩, fun L hL => ?_⟩
      refine lc_pure (β := Int) walk_tup rs (fun r => if r.1 ≥ t then some r.2 else none) (Nw.Paired.len hp).symm g1.sub hL (by rw [Nw.Paired.len hp]; omega) (fun I' H' g => SqT.of (g.sub _ _ (g.view _ _ (g1.view _ _ ha)))) ?_ ?_
      · rintro i r x I' H' H'' hr g ⟨rfl, hx⟩ Kn Ky kn ky
        obtain ⟨x', hx', b, v1, v2, rfl, hb, h1, h2⟩ := Nw.Paired.at hp hr
        rw [hx] at hx'
        cases hx'
        cases h1
        cases h2
        refine ⟨b, _, rfl, SqT.of (g.sub _ _ (g.view _ _ (g1.view _ _ hb))), rfl, _, _, rfl, _, _, rfl, rfl, rfl, ?_⟩
        refine ⟨_, rfl, _, rfl, _, _, rfl, rfl, _, rfl, ?_⟩
        refine ite2 (fun c => ?_) (fun c => ?_)
        · exact ⟨_, rfl, ky _ (if_pos (of_decide_eq_true c)) _ I' H'' (Grow.refl g.sub) rfl⟩
        · exact kn (if_neg (fun z => c (decide_eq_true z))) I' H'' (Grow.refl g.sub)
      · intro I2 H2 vs2 g2 ow hp2
        have e := Paired.ints hp2
        subst e
        have ek : endedL rs (.num t) = (match rs.filterMap (fun r => if r.1 ≥ t then some r.2 else none) with
          | [] => .last
          | e :: _ => .num e) := rfl
        rw [ek] at k
        revert ow hp2 k
        generalize rs.filterMap (fun r => if r.1 ≥ t then some r.2 else none) = es
        intro k ow hp2
        refine ⟨_, rfl, by decide, fun q hq => ⟨L, q, _, rfl, rfl, SqL.of (by rw [upd_ne (ne_of_none ow.at_ hq)]; exact ow.at_), SqL.of upd_same, _, rfl, ?_⟩⟩
        have g3 := (g1.trans g2).trans (Grow.mine (T := No) (o := .lst []) g2.sub hq)
        cases es with
        | nil => exact iteF (k _ _ g3)
        | cons e r => exact iteT ⟨_, rfl, L, _, _, _, rfl, rfl, SqL.of (by rw [upd_ne (ne_of_none ow.at_ hq)]; exact ow.at_), (by rw [atI_nat' (j := 0) (by decide)]; rfl), k _ _ g3⟩
theorem ok_Timetable__getitem (T : Txt K mg) (F : FnAt K "__getitem__" "Timetable.__getitem__" s_Timetable__getitem (He.ma K (He.ga K "Timetable") "__getitem__"))  : Ok P w K mg base CX0 2 (He.ma K (He.ga K "Timetable") "__getitem__") ["self", "index"] (sp_Timetable__getitem K) := by
  refine ok_of F sc_Timetable__getitem (fun _ _ _ _ _ _ us hl => match us, hl with | [_, _], _ => rfl) (fun vs H Q E h => ?_) (fun cdv A outer s H vs Q E hr h => ?_)
  · obtain ⟨_, _, _, _, _, _, rfl, _⟩ := h
    rfl
  · obtain ⟨a, dx, d, kvs, c, v, rfl, ha, hd, hk, k⟩ := h
    refine ⟨_, (pss_cons (ps_if (PW.pt (pw_or (pt_not (pt_val (pe_callB call_isi (by rfl) T.b_isinstance (by decide +kernel) (pa_cons (pv 1) (pa_cons (pe_bltn (v := .ty "str") rfl T.b_str (by decide +kernel) rfl) pa_nil))))) (pw_or1 (pt_cmp (pc_dnotin (hu_of hr) (pv 1) (pe_fld (pv 0) rfl)))))) (pss_one ps_never) pss_nil)
      (pss_one (ps_ret (pe_dget (hu_of hr) (pe_fld (pv 0) rfl) (pv 1) (fun _ _ => rfl))))), ?_⟩
    refine ⟨_, rfl, .str (sg c), .ty "str", _, _, true, rfl, .ty _, .base (.str _), kit_refl, true, rfl, iteF ?_⟩
    refine ⟨_, rfl, _, rfl, a, _, dx, _, _, rfl, ha, T.cl_Timetable, T.na_Timetable_own_links, rfl, d, _, rfl, DGet.k (k := .inr (sg c)) hd, ?_⟩
    rw [valV_S, hk]
    refine ⟨false, rfl, iteF ?_⟩
    refine ⟨_, rfl, a, _, dx, _, _, rfl, ha, T.cl_Timetable, T.na_Timetable_own_links, rfl, _, rfl, d, v, rfl, ?_, k⟩
    have z := DGet.k (k := .inr (sg c)) hd
    rw [valV_S, hk] at z
    exact z
end
end Nw

namespace Nw
open PySem PySem.Spec PyProof.Rows L2
/-! ### the plain law: what can be is what lies between -/
theorem late_num {es : List Int} {e : Int} : numLate es = .num e ↔ e ∈ es ∧ ∀ z ∈ es, e ≤ z := by
  cases es with
  | nil => exact ⟨fun h => (nomatch h), fun h => (nomatch h.1)⟩
  | cons x l =>
    constructor
    · intro h
      have h : minL x l = e := Mom.num.inj h
      rw [← h]
      exact ⟨minL_mem l x, fun z hz => by
        rcases List.mem_cons.mp hz with z1 | z1
        · rw [z1]; exact (minL_le l x).1
        · exact (minL_le l x).2 _ z1⟩
    · rintro ⟨h1, h2⟩
      show Mom.num (minL x l) = .num e
      rw [min_uniq h1 h2]
theorem late_last {es : List Int} : numLate es = .last ↔ es = [] := by
  cases es with
  | nil => exact ⟨fun _ => rfl, fun _ => rfl⟩
  | cons x l => exact ⟨fun h => (nomatch h), fun h => (nomatch h)⟩
theorem early_num {es : List Int} {e : Int} : numEarly es = .num e ↔ e ∈ es ∧ ∀ z ∈ es, z ≤ e := by
  cases es with
  | nil => exact ⟨fun h => (nomatch h), fun h => (nomatch h.1)⟩
  | cons x l =>
    constructor
    · intro h
      have h : maxL x l = e := Mom.num.inj h
      rw [← h]
      exact ⟨maxL_mem l x, fun z hz => by
        rcases List.mem_cons.mp hz with z1 | z1
        · rw [z1]; exact (maxL_ge l x).1
        · exact (maxL_ge l x).2 _ z1⟩
    · rintro ⟨h1, h2⟩
      show Mom.num (maxL x l) = .num e
      rw [max_uniq h1 h2]
theorem early_first {es : List Int} : numEarly es = .first ↔ es = [] := by
  cases es with
  | nil => exact ⟨fun _ => rfl, fun _ => rfl⟩
  | cons x l => exact ⟨fun h => (nomatch h), fun h => (nomatch h)⟩
theorem end_num {rs : Rides} {t e : Int} : (endsF rs (.num t)).2 = .num e ↔ (∃ r ∈ rs, t ≤ r.1 ∧ r.2 = e) ∧ ∀ r ∈ rs, t ≤ r.1 → e ≤ r.2 := by
  show numLate (rs.filterMap fun r => if r.1 ≥ t then some r.2 else none) = .num e ↔ _
  rw [late_num, late_mem]
  exact ⟨fun ⟨h1, h2⟩ => ⟨h1, fun r hr hz => h2 _ (late_mem.mpr ⟨r, hr, hz, rfl⟩)⟩, fun ⟨h1, h2⟩ => ⟨h1, fun z hz => by
    obtain ⟨r, hr, h3, rfl⟩ := late_mem.mp hz
    exact h2 r hr h3⟩⟩
theorem end_last {rs : Rides} {t : Int} : (endsF rs (.num t)).2 = .last ↔ ∀ r ∈ rs, ¬ t ≤ r.1 := by
  show numLate (rs.filterMap fun r => if r.1 ≥ t then some r.2 else none) = .last ↔ _
  rw [late_last]
  constructor
  · intro h r hr hz
    have := late_mem.mpr ⟨r, hr, hz, rfl⟩
    rw [h] at this
    cases this
  · intro h
    cases e : (rs.filterMap fun r => if r.1 ≥ t then some r.2 else none) with
    | nil => rfl
    | cons x l =>
      obtain ⟨r, hr, h3, _⟩ := late_mem.mp (show x ∈ (rs.filterMap fun r => if r.1 ≥ t then some r.2 else none) by rw [e]; exact List.mem_cons_self ..)
      exact absurd h3 (h r hr)
theorem beg_num {rs : Rides} {t e : Int} : (begF rs (.num t)).1 = .num e ↔ (∃ r ∈ rs, r.2 ≤ t ∧ r.1 = e) ∧ ∀ r ∈ rs, r.2 ≤ t → r.1 ≤ e := by
  show numEarly (rs.filterMap fun r => if r.2 ≤ t then some r.1 else none) = .num e ↔ _
  rw [early_num, early_mem]
  exact ⟨fun ⟨h1, h2⟩ => ⟨h1, fun r hr hz => h2 _ (early_mem.mpr ⟨r, hr, hz, rfl⟩)⟩, fun ⟨h1, h2⟩ => ⟨h1, fun z hz => by
    obtain ⟨r, hr, h3, rfl⟩ := early_mem.mp hz
    exact h2 r hr h3⟩⟩
theorem beg_first {rs : Rides} {t : Int} : (begF rs (.num t)).1 = .first ↔ ∀ r ∈ rs, ¬ r.2 ≤ t := by
  show numEarly (rs.filterMap fun r => if r.2 ≤ t then some r.1 else none) = .first ↔ _
  rw [early_first]
  constructor
  · intro h r hr hz
    have := early_mem.mpr ⟨r, hr, hz, rfl⟩
    rw [h] at this
    cases this
  · intro h
    cases e : (rs.filterMap fun r => if r.2 ≤ t then some r.1 else none) with
    | nil => rfl
    | cons x l =>
      obtain ⟨r, hr, h3, _⟩ := early_mem.mp (show x ∈ (rs.filterMap fun r => if r.2 ≤ t then some r.1 else none) by rw [e]; exact List.mem_cons_self ..)
      exact absurd h3 (h r hr)
/-- rides that one link can have -/
def Fit (rs : Rides) : Prop := (∀ r ∈ rs, r.1 ≤ r.2) ∧ ∀ r ∈ rs, ∀ q ∈ rs, r.1 ≤ q.1 → r.2 ≤ q.2
theorem has_iff {rs xs : Rides} (h : ∀ r ∈ xs, r ∈ rs) : hasF rs xs = true ↔ ∀ r ∈ xs, ∀ q ∈ rs, r.1 ≤ q.1 → r.2 ≤ q.2 := by
  unfold hasF
  rw [List.all_eq_true]
  exact ⟨fun z r hr => (end_num.mp (of_decide_eq_true (z r hr))).2, fun z r hr => decide_eq_true (end_num.mpr ⟨⟨r, h r hr, Int.le_refl _, rfl⟩, z r hr⟩)⟩
theorem has_self {rs : Rides} (f : Fit rs) : hasF rs rs = true := (has_iff fun _ h => h).mpr f.2
theorem has_add {rs : Rides} (f : Fit rs) {a b : Int} : hasF (rs ++ [(a, b)]) rs = true ↔ ∀ r ∈ rs, r.1 ≤ a → r.2 ≤ b := by
  rw [has_iff fun r h => List.mem_append_left _ h]
  constructor
  · intro h r hr ha
    exact h r hr (a, b) (List.mem_append_right _ (List.mem_singleton.mpr rfl)) ha
  · intro h r hr q hq hz
    rcases List.mem_append.mp hq with hq | hq
    · exact f.2 r hr q hq hz
    · rw [List.mem_singleton] at hq
      subst hq
      exact h r hr hz
theorem end_add {rs : Rides} {t e : Int} : (endsF (rs ++ [(t, e)]) (.num t)).2 = .num e ↔ ∀ r ∈ rs, t ≤ r.1 → e ≤ r.2 := by
  rw [end_num]
  constructor
  · exact fun h r hr hz => h.2 r (List.mem_append_left _ hr) hz
  · intro h
    refine ⟨⟨(t, e), List.mem_append_right _ (List.mem_singleton.mpr rfl), Int.le_refl _, rfl⟩, fun r hr hz => ?_⟩
    rcases List.mem_append.mp hr with hr | hr
    · exact h r hr hz
    · rw [List.mem_singleton] at hr
      subst hr
      exact Int.le_refl _
theorem beg_add {rs : Rides} {t b : Int} : (begF (rs ++ [(b, t)]) (.num t)).1 = .num b ↔ ∀ r ∈ rs, r.2 ≤ t → r.1 ≤ b := by
  rw [beg_num]
  constructor
  · exact fun h r hr hz => h.2 r (List.mem_append_left _ hr) hz
  · intro h
    refine ⟨⟨(b, t), List.mem_append_right _ (List.mem_singleton.mpr rfl), Int.le_refl _, rfl⟩, fun r hr hz => ?_⟩
    rcases List.mem_append.mp hr with hr | hr
    · exact h r hr hz
    · rw [List.mem_singleton] at hr
      subst hr
      exact Int.le_refl _
theorem max_le {t e : Int} {es : List Int} : maxL t es ≤ e ↔ t ≤ e ∧ ∀ z ∈ es, z ≤ e := by
  constructor
  · intro h
    have := maxL_ge es t
    exact ⟨Int.le_trans this.1 h, fun z hz => Int.le_trans (this.2 z hz) h⟩
  · rintro ⟨h1, h2⟩
    rcases List.mem_cons.mp (maxL_mem es t) with z | z
    · rw [z]; exact h1
    · exact h2 _ z
theorem le_min {t e : Int} {es : List Int} : e ≤ minL t es ↔ e ≤ t ∧ ∀ z ∈ es, e ≤ z := by
  constructor
  · intro h
    have := minL_le es t
    exact ⟨Int.le_trans h this.1, fun z hz => Int.le_trans h (this.2 z hz)⟩
  · rintro ⟨h1, h2⟩
    rcases List.mem_cons.mp (minL_mem es t) with z | z
    · rw [z]; exact h1
    · exact h2 _ z
theorem le_late {e : Int} {es : List Int} (he : e ≤ 10 ^ 45) : e ≤ placeM (numLate es) ↔ ∀ z ∈ es, e ≤ z := by
  cases es with
  | nil => exact ⟨fun _ _ z => (nomatch z), fun _ => he⟩
  | cons x l =>
    show e ≤ minL x l ↔ _
    rw [le_min]
    exact ⟨fun ⟨h1, h2⟩ z hz => (List.mem_cons.mp hz).elim (fun q => q ▸ h1) (h2 z), fun h => ⟨h x (List.mem_cons_self ..), fun z hz => h z (List.mem_cons_of_mem _ hz)⟩⟩
theorem early_le {e : Int} {es : List Int} (he : 0 - 10 ^ 45 ≤ e) : placeM (numEarly es) ≤ e ↔ ∀ z ∈ es, z ≤ e := by
  cases es with
  | nil => exact ⟨fun _ _ z => (nomatch z), fun _ => he⟩
  | cons x l =>
    show maxL x l ≤ e ↔ _
    rw [max_le]
    exact ⟨fun ⟨h1, h2⟩ z hz => (List.mem_cons.mp hz).elim (fun q => q ▸ h1) (h2 z), fun h => ⟨h x (List.mem_cons_self ..), fun z hz => h z (List.mem_cons_of_mem _ hz)⟩⟩
/-- a moment that is no number, or a number not too far -/
def nearM : Mom → Prop
  | .num t => t.natAbs ≤ 10 ^ 40
  | _ => True
theorem upto_mem {rs : Rides} {t e : Int} : e ∈ (rs.filterMap fun r => if r.1 ≤ t then some r.2 else none) ↔ ∃ r ∈ rs, r.1 ≤ t ∧ r.2 = e := by
  rw [List.mem_filterMap]
  constructor
  · rintro ⟨r, hr, h⟩
    split at h
    · cases h
      exact ⟨r, hr, by assumption, rfl⟩
    · cases h
  · rintro ⟨r, hr, h, rfl⟩
    exact ⟨r, hr, if_pos h⟩
theorem over_mem {rs : Rides} {t e : Int} : e ∈ (rs.filterMap fun r => if r.2 > t then some (r.1 - 1) else none) ↔ ∃ r ∈ rs, r.2 > t ∧ r.1 - 1 = e := by
  rw [List.mem_filterMap]
  constructor
  · rintro ⟨r, hr, h⟩
    split at h
    · cases h
      exact ⟨r, hr, by assumption, rfl⟩
    · cases h
  · rintro ⟨r, hr, h, rfl⟩
    exact ⟨r, hr, if_pos h⟩
theorem canE_is {rs : Rides} {t : Int} {m : Mom} (f : Fit rs) (hr : ∀ r ∈ rs, r.1.natAbs ≤ 10 ^ 40 ∧ r.2.natAbs ≤ 10 ^ 40) (ht : t.natAbs ≤ 10 ^ 40) (hm : nearM m) (h1 : m ≠ .first) :
    canE rs t m = betw (endsF rs (.num t)).1 (endsF rs (.num t)).2 m := by
  have hlow : ∀ e : Int, placeM (endsF rs (.num t)).1 ≤ e ↔ t ≤ e ∧ ∀ r ∈ rs, r.1 ≤ t → r.2 ≤ e := fun e => by
    show maxL t (rs.filterMap fun r => if r.1 ≤ t then some r.2 else none) ≤ e ↔ _
    rw [max_le]
    exact ⟨fun ⟨a, b⟩ => ⟨a, fun r hr hz => b _ (upto_mem.mpr ⟨r, hr, hz, rfl⟩)⟩, fun ⟨a, b⟩ => ⟨a, fun z hz => by
      obtain ⟨r, hr, h3, rfl⟩ := upto_mem.mp hz
      exact b r hr h3⟩⟩
  match m, h1, hm with
  | .first, h1, _ => exact absurd rfl h1
  | .last, _, _ =>
    unfold betw
    show (hasF rs rs && decide ((endsF rs (.num t)).2 = .last)) = _
    rw [has_self f, Bool.true_and, Bool.eq_iff_iff, Bool.and_eq_true, decide_eq_true_iff, decide_eq_true_iff, decide_eq_true_iff]
    constructor
    · intro h
      rw [h]
      refine ⟨(hlow _).mpr ⟨?_, fun r hr' _ => ?_⟩, Int.le_refl _⟩
      · show t ≤ 10 ^ 45
        omega
      · have := hr r hr'
        show r.2 ≤ 10 ^ 45
        omega
    · rintro ⟨_, h⟩
      cases e : (endsF rs (.num t)).2 with
      | last => rfl
      | first =>
        rw [e] at h
        exact absurd h (by decide)
      | num x =>
        rw [e] at h
        obtain ⟨⟨r, hr', _, h3⟩, _⟩ := end_num.mp e
        have := hr r hr'
        have h : (10 : Int) ^ 45 ≤ x := h
        omega
  | .num e, _, hm =>
    have hm : e.natAbs ≤ 10 ^ 40 := hm
    have hhigh : e ≤ placeM (endsF rs (.num t)).2 ↔ ∀ r ∈ rs, t ≤ r.1 → e ≤ r.2 := by
      show e ≤ placeM (numLate (rs.filterMap fun r => if r.1 ≥ t then some r.2 else none)) ↔ _
      rw [le_late (by omega)]
      exact ⟨fun b r hr hz => b _ (late_mem.mpr ⟨r, hr, hz, rfl⟩), fun b z hz => by
        obtain ⟨r, hr, h3, rfl⟩ := late_mem.mp hz
        exact b r hr h3⟩
    unfold canE betw
    show (decide (t ≤ e) && (hasF (rs ++ [(t, e)]) rs && decide ((endsF (rs ++ [(t, e)]) (.num t)).2 = .num e))) = (decide (placeM (endsF rs (.num t)).1 ≤ e) && decide (e ≤ placeM (endsF rs (.num t)).2))
    rw [Bool.eq_iff_iff, Bool.and_eq_true, Bool.and_eq_true, Bool.and_eq_true, decide_eq_true_iff, decide_eq_true_iff, decide_eq_true_iff, decide_eq_true_iff, has_add f, end_add, hlow, hhigh]
    exact ⟨fun ⟨a, b, c⟩ => ⟨⟨a, b⟩, c⟩, fun ⟨⟨a, b⟩, c⟩ => ⟨a, b, c⟩⟩
theorem canB_is {rs : Rides} {t : Int} {m : Mom} (f : Fit rs) (hr : ∀ r ∈ rs, r.1.natAbs ≤ 10 ^ 40 ∧ r.2.natAbs ≤ 10 ^ 40) (ht : t.natAbs ≤ 10 ^ 40) (hm : nearM m) (h1 : m ≠ .last) :
    canB rs t m = betw (begF rs (.num t)).1 (begF rs (.num t)).2 m := by
  have hhigh : ∀ e : Int, e ≤ placeM (begF rs (.num t)).2 ↔ e ≤ t ∧ ∀ r ∈ rs, r.1 ≤ e → r.2 ≤ t := fun e => by
    show e ≤ minL t (rs.filterMap fun r => if r.2 > t then some (r.1 - 1) else none) ↔ _
    rw [le_min]
    refine ⟨fun ⟨a, b⟩ => ⟨a, fun r hr hz => ?_⟩, fun ⟨a, b⟩ => ⟨a, fun z hz => ?_⟩⟩
    · by_cases c : r.2 > t
      · have := b _ (over_mem.mpr ⟨r, hr, c, rfl⟩)
        omega
      · omega
    · obtain ⟨r, hr, h3, rfl⟩ := over_mem.mp hz
      have := b r hr
      omega
  match m, h1, hm with
  | .last, h1, _ => exact absurd rfl h1
  | .first, _, _ =>
    unfold betw
    show (hasF rs rs && decide ((begF rs (.num t)).1 = .first)) = _
    rw [has_self f, Bool.true_and, Bool.eq_iff_iff, Bool.and_eq_true, decide_eq_true_iff, decide_eq_true_iff, decide_eq_true_iff]
    constructor
    · intro h
      rw [h]
      refine ⟨Int.le_refl _, (hhigh _).mpr ⟨?_, fun r hr' z => ?_⟩⟩
      · show 0 - 10 ^ 45 ≤ t
        omega
      · have := hr r hr'
        have z : r.1 ≤ 0 - 10 ^ 45 := z
        omega
    · rintro ⟨h, _⟩
      cases e : (begF rs (.num t)).1 with
      | first => rfl
      | last =>
        rw [e] at h
        exact absurd h (by decide)
      | num x =>
        rw [e] at h
        obtain ⟨⟨r, hr', _, h3⟩, _⟩ := beg_num.mp e
        have := hr r hr'
        have h : x ≤ 0 - 10 ^ 45 := h
        omega
  | .num e, _, hm =>
    have hm : e.natAbs ≤ 10 ^ 40 := hm
    have hlow : placeM (begF rs (.num t)).1 ≤ e ↔ ∀ r ∈ rs, r.2 ≤ t → r.1 ≤ e := by
      show placeM (numEarly (rs.filterMap fun r => if r.2 ≤ t then some r.1 else none)) ≤ e ↔ _
      rw [early_le (by omega)]
      exact ⟨fun b r hr hz => b _ (early_mem.mpr ⟨r, hr, hz, rfl⟩), fun b z hz => by
        obtain ⟨r, hr, h3, rfl⟩ := early_mem.mp hz
        exact b r hr h3⟩
    unfold canB betw
    show (decide (e ≤ t) && (hasF (rs ++ [(e, t)]) rs && decide ((begF (rs ++ [(e, t)]) (.num t)).1 = .num e))) = (decide (placeM (begF rs (.num t)).1 ≤ e) && decide (e ≤ placeM (begF rs (.num t)).2))
    rw [Bool.eq_iff_iff, Bool.and_eq_true, Bool.and_eq_true, Bool.and_eq_true, decide_eq_true_iff, decide_eq_true_iff, decide_eq_true_iff, decide_eq_true_iff, has_add f, beg_add, hlow, hhigh]
    exact ⟨fun ⟨a, b, c⟩ => ⟨c, a, b⟩, fun ⟨c, a, b⟩ => ⟨a, b, c⟩⟩
end Nw

namespace Nw
open PySem PySem.Spec PyProof.Rows L2
/-! ### the plain law: a timetable of all messages and a ride -/
theorem late_nf {es : List Int} : numLate es ≠ .first := by cases es <;> exact fun h => (nomatch h)
theorem end_needed {rs ns : Rides} (h : IsNeeded rs ns) (t : Int) : (endsF ns (.num t)).2 = (endsF rs (.num t)).2 := by
  cases e : (endsF rs (.num t)).2 with
  | first => exact absurd e late_nf
  | last =>
    rw [end_last] at e ⊢
    exact fun n hn => e n (h.sub n hn)
  | num x =>
    rw [end_num] at e ⊢
    obtain ⟨⟨r, hr, h1, h2⟩, h3⟩ := e
    obtain ⟨n, hn, h4, h5⟩ := h.cov r hr
    have h6 := h3 n (h.sub n hn) (by omega)
    exact ⟨⟨n, hn, by omega, by omega⟩, fun q hq hz => h3 q (h.sub q hq) hz⟩
theorem has_needed {rs ns : Rides} (h : IsNeeded rs ns) (xs : Rides) : hasF ns xs = hasF rs xs := by
  unfold hasF
  congr 1
  funext r
  rw [end_needed h]
/-- the rides of an example: all messages, and the ride asked for -/
def exR (ms : List Ms) (c : Nat) (t : Int) (m : Mom) (d : Nat) : Rides := match m with
  | .num e => if d = c then ridesL ms d ++ [(t, e)] else ridesL ms d
  | _ => ridesL ms d
def exKeys (ms : List Ms) (c : Nat) : List Nat := [97, 98, 99, 100].filter fun d => decide (d = c) || !(ridesL ms d).isEmpty
theorem ex_has {ms : List Ms} {c : Nat} {t : Int} {m : Mom} (f : ∀ d, Fit (ridesL ms d)) (h : canE (ridesL ms c) t m = true) (d : Nat) : hasF (exR ms c t m d) (ridesL ms d) = true := by
  cases m with
  | num e =>
    unfold exR
    by_cases z : d = c
    · subst z
      show hasF (if d = d then _ else _) _ = true
      rw [if_pos rfl]
      have h : (decide (t ≤ e) && (hasF (ridesL ms d ++ [(t, e)]) (ridesL ms d) && _)) = true := h
      rw [Bool.and_eq_true, Bool.and_eq_true] at h
      exact h.2.1
    · show hasF (if d = c then _ else _) _ = true
      rw [if_neg z]
      exact has_self (f d)
  | first => exact has_self (f d)
  | last => exact has_self (f d)
theorem ex_end {ms : List Ms} {c : Nat} {t : Int} {m : Mom} (h : canE (ridesL ms c) t m = true) : (endsF (exR ms c t m c) (.num t)).2 = m := by
  cases m with
  | num e =>
    unfold exR
    show (endsF (if c = c then _ else _) (.num t)).2 = _
    rw [if_pos rfl]
    have h : (decide (t ≤ e) && (hasF (ridesL ms c ++ [(t, e)]) (ridesL ms c) && decide ((endsF (ridesL ms c ++ [(t, e)]) (.num t)).2 = .num e))) = true := h
    rw [Bool.and_eq_true, Bool.and_eq_true] at h
    exact of_decide_eq_true h.2.2
  | first =>
    have h : (hasF (ridesL ms c) (ridesL ms c) && decide ((endsF (ridesL ms c) (.num t)).2 = .first)) = true := h
    rw [Bool.and_eq_true] at h
    exact of_decide_eq_true h.2
  | last =>
    have h : (hasF (ridesL ms c) (ridesL ms c) && decide ((endsF (ridesL ms c) (.num t)).2 = .last)) = true := h
    rw [Bool.and_eq_true] at h
    exact of_decide_eq_true h.2
end Nw

namespace Nw
open PySem PySem.Spec PyProof.Rows L2
/-! ### the law's own messages, with the lines of which they are -/
theorem keys_kvS {kvs : List (Nat × V)} (h : (kvs.map (·.1)).Nodup) : mergeK [] (kvs.map kvS) = kvs.map kvS := by
  refine merge_nodup ?_
  have e : (kvs.map kvS).map (·.1) = (kvs.map (·.1)).map fun c => (Sum.inr (sg c) : Key) := by rw [List.map_map, List.map_map]; rfl
  rw [e]
  clear e
  induction kvs with
  | nil => exact List.nodup_nil
  | cons q r ih =>
    obtain ⟨h1, h2⟩ := List.nodup_cons.mp h
    refine List.nodup_cons.mpr ⟨fun z => ?_, ih h2⟩
    obtain ⟨c, hc, e⟩ := List.mem_map.mp z
    have e2 : sg c = sg q.1 := Sum.inr.inj e
    have e3 : c = q.1 := (List.cons.inj (mk_inj (a := [c]) (b := [q.1]) e2)).1
    rw [e3] at hc
    exact h1 hc
structure KvP (α : Type) where
  c : Nat
  x : α
instance {α : Type} [Rep α] : Rep (KvP α) := ⟨fun I v x => ∃ a v2, v = .ref a ∧ I a = some (.tup [.str (sg x.c), v2]) ∧ Rep.is I v2 x.x, fun e ⟨a, v2, h1, h2, h3⟩ => ⟨a, v2, h1, e _ _ h2, Rep.mono e h3⟩⟩
structure Lk (K : PySem.W.Frag) where
  ns : Rides
instance {K : PySem.W.Frag} : Rep (Lk K) := ⟨fun I v x => isLink K I v x.ns, fun e h => h.up e⟩
def kvP {α : Type} [Rep α] (I : Hp) (kvs : List (Nat × V)) (xs : List (KvP α)) : Prop := Paired (fun (p : Nat × V) (q : KvP α) => p.1 = q.c ∧ Rep.is I p.2 q.x) kvs xs
theorem kvP_of {α : Type} [Rep α] {K : PySem.W.Frag} {I H : Hp} (sb : Same I H) : ∀ {vs : List V} {xs : List (KvP α)}, Paired (Rep.is I) vs xs →
    ∃ (ps : List Addr) (kvs : List (Nat × V)), vs = ps.map V.ref ∧ Paired (fun p (kv : Key × V) => SqT K H p [kV kv.1, kv.2]) ps (kvs.map kvS) ∧ kvP I kvs xs
  | _, _, .nil => ⟨[], [], rfl, .nil, .nil⟩
  | _, _, .cons h t => by
    obtain ⟨ps, kvs, e, h1, h2⟩ := kvP_of (K := K) sb t
    obtain ⟨a, v2, rfl, ha, hl⟩ := h
    subst e
    exact ⟨a :: ps, (_, v2) :: kvs, rfl, .cons (SqT.of (sb _ _ ha)) h1, .cons ⟨rfl, hl⟩ h2⟩
theorem kvP.up {α : Type} [Rep α] {I I' : Hp} {kvs : List (Nat × V)} {xs : List (KvP α)} (h : kvP I kvs xs) (e : Same I I') : kvP I' kvs xs := Paired.mono' (fun _ _ z => ⟨z.1, Rep.mono e z.2⟩) h
theorem kvP.keys {α : Type} [Rep α] {I : Hp} : ∀ {kvs : List (Nat × V)} {xs : List (KvP α)}, kvP I kvs xs → kvs.map (·.1) = xs.map (·.c)
  | _, _, .nil => rfl
  | _, _, .cons h t => by rw [List.map_cons, List.map_cons, h.1, kvP.keys t]
theorem kvP.links {K : PySem.W.Frag} {I : Hp} : ∀ {kvs : List (Nat × V)} {xs : List (KvP (Lk K))}, kvP I kvs xs → linksP K I kvs (xs.map fun x => (x.c, x.x.ns))
  | _, _, .nil => .nil
  | _, _, .cons h t => .cons ⟨h.1, h.2⟩ (kvP.links t)
theorem Own.gave {T : Addr → Prop} {H0 I H : Hp} {l m : Addr} {o u : HO} (w : Own T H0 l o I H) (ne : l ≠ m) : Own T H0 l o (upd I m u) H := ⟨w.nt, w.n0, by rw [upd_ne ne]; exact w.ni, w.at_⟩
theorem cdW2 {wd : Int} : CDiv wd 2 := by unfold CDiv; exact ⟨by decide, by decide⟩
theorem pickW {wd : Int} (h8 : 8 ≤ wd) (h9 : wd ≤ 9) {j : Nat} {x : V} (h : [V.int 0, V.int 1, V.int 1, V.int 2, V.int (wd / 2)][j]? = some x) : ∃ z, x = .int z ∧ 0 ≤ z ∧ z ≤ 4 := by
  have z := List.mem_of_getElem? h
  simp only [List.mem_cons, List.not_mem_nil, or_false] at z
  rcases z with rfl | rfl | rfl | rfl | rfl
  all_goals exact ⟨_, rfl, by omega, by omega⟩
theorem pickWb {wd : Int} (h8 : 8 ≤ wd) (h9 : wd ≤ 9) {j : Nat} {x : V} (h : [V.int 0, V.int 0, V.int 1, V.int 2, V.int (wd / 2)][j]? = some x) : ∃ z, x = .int z ∧ 0 ≤ z ∧ z ≤ 4 := by
  have z := List.mem_of_getElem? h
  simp only [List.mem_cons, List.not_mem_nil, or_false] at z
  rcases z with rfl | rfl | rfl | rfl | rfl
  all_goals exact ⟨_, rfl, by omega, by omega⟩
def sp_l_seen (K : PySem.W.Frag) : Sp := fun vs H Q _ => ∃ (I : Hp) (D : DA) (n : Nat) (l : List Nat) (many : Nat) (wd : Int), vs = [.ref D.d, .str (mk l), .int many, .int wd] ∧ Drw D n I H ∧ n + 200 < lim ∧ l.length ≤ 4 ∧ l.Nodup ∧ (∀ c ∈ l, 97 ≤ c ∧ c ≤ 100) ∧ many ≤ 8 ∧ 8 ≤ wd ∧ wd ≤ 9 ∧
  ∀ ps R t p d ks I' H', Drawn I' l ps R → ps.length ≤ many * l.length → (∀ c ∈ l, (R c).length ≤ many ∧ ∀ r ∈ R c, r.1.natAbs ≤ 1000 ∧ r.2.natAbs ≤ 1000) → I' p = some (.lst (ps.map Prod.fst)) → H' t = some (.tup [.ref p, .ref d]) → Own (TD D) H d (.dK (ks.map kvS)) I' H' → kvP I' ks (l.map fun c => ⟨c, R c⟩) → Grow (TD D) I H I' H' → Drw D (n + 200) I' H' → Q (.ref t) H'
section
variable {P : Program} {w : World} {K : PySem.W.Frag} {mg : Str → Option Value} {base : Heap}
end
end Nw

namespace Nw
open PySem PySem.Spec PyProof.Rows L2
/-! ### the plain law: bounds of rows are reached, and others lie between them -/
/-- what a step leads to, by the lows (or the highs) of what is known -/
def lowF (ms : List Ms) (c : Nat) (m : Mom) : Mom := if low c = true then (endsF (ridesL ms c) m).1 else (begF (ridesL ms (lo1 c)) m).1
def highF (ms : List Ms) (c : Nat) (m : Mom) : Mom := if low c = true then (endsF (ridesL ms c) m).2 else (begF (ridesL ms (lo1 c)) m).2
theorem bounds_fold (ms : List Ms) : ∀ (l : List Nat) (p : Mom × Mom), l.foldl (stepF ms) p = (l.foldl (fun m c => lowF ms c m) p.1, l.foldl (fun m c => highF ms c m) p.2)
  | [], _ => rfl
  | c :: l, p => by
    have e : stepF ms p c = (lowF ms c p.1, highF ms c p.2) := by
      unfold stepF lowF highF
      split <;> rfl
    rw [List.foldl_cons, List.foldl_cons, List.foldl_cons, e, bounds_fold ms l]
theorem late_is {rs : Rides} {t : Int} : (∃ e, (endsF rs (.num t)).2 = .num e) ∨ (endsF rs (.num t)).2 = .last := by
  show (∃ e, numLate _ = .num e) ∨ numLate _ = .last
  cases (rs.filterMap fun r => if r.1 ≥ t then some r.2 else none) with
  | nil => exact .inr rfl
  | cons e l => exact .inl ⟨_, rfl⟩
theorem early_is {rs : Rides} {t : Int} : (∃ e, (begF rs (.num t)).1 = .num e) ∨ (begF rs (.num t)).1 = .first := by
  show (∃ e, numEarly _ = .num e) ∨ numEarly _ = .first
  cases (rs.filterMap fun r => if r.2 ≤ t then some r.1 else none) with
  | nil => exact .inr rfl
  | cons e l => exact .inl ⟨_, rfl⟩
theorem low_num {rs : Rides} {t y : Int} (h : (endsF rs (.num t)).1 = .num y) : t ≤ y ∧ (∀ r ∈ rs, r.1 ≤ t → r.2 ≤ y) ∧ (y = t ∨ ∃ r ∈ rs, r.1 ≤ t ∧ r.2 = y) := by
  have h : maxL t (rs.filterMap fun r => if r.1 ≤ t then some r.2 else none) = y := Mom.num.inj h
  obtain ⟨h1, h2⟩ := maxL_ge (rs.filterMap fun r => if r.1 ≤ t then some r.2 else none) t
  have h3 := maxL_mem (rs.filterMap fun r => if r.1 ≤ t then some r.2 else none) t
  rw [h] at h1 h2 h3
  refine ⟨h1, fun r hr hz => h2 _ (upto_mem.mpr ⟨r, hr, hz, rfl⟩), ?_⟩
  rcases List.mem_cons.mp h3 with z | z
  · exact .inl z
  · exact .inr (upto_mem.mp z)
theorem high_num {rs : Rides} {t y : Int} (h : (begF rs (.num t)).2 = .num y) : y ≤ t ∧ (∀ r ∈ rs, t < r.2 → y ≤ r.1 - 1) ∧ (y = t ∨ ∃ r ∈ rs, t < r.2 ∧ r.1 - 1 = y) := by
  have h : minL t (rs.filterMap fun r => if r.2 > t then some (r.1 - 1) else none) = y := Mom.num.inj h
  obtain ⟨h1, h2⟩ := minL_le (rs.filterMap fun r => if r.2 > t then some (r.1 - 1) else none) t
  have h3 := minL_mem (rs.filterMap fun r => if r.2 > t then some (r.1 - 1) else none) t
  rw [h] at h1 h2 h3
  refine ⟨h1, fun r hr hz => h2 _ (over_mem.mpr ⟨r, hr, hz, rfl⟩), ?_⟩
  rcases List.mem_cons.mp h3 with z | z
  · exact .inl z
  · exact .inr (over_mem.mp z)
/-- what is asked of a way of bounds, forth -/
structure Forth (rs : Rides) (G : Mom → Mom) : Prop where
  fst : G .first = .first
  lst : G .last = .last
  num : ∀ x, (∃ y, G (.num x) = .num y) ∨ G (.num x) = .last
  msg : ∀ x y, G (.num x) = .num y → ∀ r ∈ rs, (x ≤ r.1 → y ≤ r.2) ∧ (r.1 ≤ x → r.2 ≤ y)
  up : ∀ x y x' y', G (.num x) = .num y → G (.num x') = .num y' → x ≤ x' → y ≤ y'
  end_ : ∀ x, G (.num x) = .last → (∀ r ∈ rs, ¬ x ≤ r.1) ∧ ∀ x' y', x ≤ x' → G (.num x') ≠ .num y'
structure Back (rs : Rides) (G : Mom → Mom) : Prop where
  fst : G .first = .first
  lst : G .last = .last
  num : ∀ x, (∃ y, G (.num x) = .num y) ∨ G (.num x) = .first
  msg : ∀ x y, G (.num x) = .num y → ∀ r ∈ rs, (r.2 ≤ x → r.1 ≤ y) ∧ (r.1 ≤ y → r.2 ≤ x)
  up : ∀ x y x' y', G (.num x) = .num y → G (.num x') = .num y' → x' ≤ x → y' ≤ y
  end_ : ∀ x, G (.num x) = .first → (∀ r ∈ rs, ¬ r.2 ≤ x) ∧ ∀ x' y', x' ≤ x → G (.num x') ≠ .num y'
theorem forth_low {rs : Rides} (f : Fit rs) : Forth rs fun m => (endsF rs m).1 where
  fst := rfl
  lst := rfl
  num := fun x => .inl ⟨_, rfl⟩
  msg := fun x y h r hr => by
    obtain ⟨h1, h2, h3⟩ := low_num h
    refine ⟨fun z => ?_, h2 r hr⟩
    have hv := f.1 r hr
    rcases h3 with h3 | ⟨q, hq, h4, h5⟩
    · omega
    · have := f.2 q hq r hr (by omega)
      omega
  up := fun x y x' y' h h' z => by
    obtain ⟨h1, h2, h3⟩ := low_num h
    obtain ⟨k1, k2, k3⟩ := low_num h'
    rcases h3 with h3 | ⟨q, hq, h4, h5⟩
    · omega
    · have := k2 q hq (by omega)
      omega
  end_ := fun x h => nomatch h
theorem forth_high {rs : Rides} (f : Fit rs) : Forth rs fun m => (endsF rs m).2 where
  fst := rfl
  lst := rfl
  num := fun x => late_is
  msg := fun x y h r hr => by
    obtain ⟨⟨q, hq, h1, h2⟩, h3⟩ := end_num.mp h
    refine ⟨h3 r hr, fun z => ?_⟩
    have := f.2 r hr q hq (by omega)
    omega
  up := fun x y x' y' h h' z => by
    obtain ⟨_, h3⟩ := end_num.mp h
    obtain ⟨⟨q, hq, h1, h2⟩, _⟩ := end_num.mp h'
    have := h3 q hq (by omega)
    omega
  end_ := fun x h => by
    have h := end_last.mp h
    refine ⟨h, fun x' y' z h' => ?_⟩
    obtain ⟨⟨q, hq, h1, h2⟩, _⟩ := end_num.mp h'
    exact h q hq (by omega)
theorem back_low {rs : Rides} (f : Fit rs) : Back rs fun m => (begF rs m).1 where
  fst := rfl
  lst := rfl
  num := fun x => early_is
  msg := fun x y h r hr => by
    obtain ⟨⟨q, hq, h1, h2⟩, h3⟩ := beg_num.mp h
    refine ⟨h3 r hr, fun z => ?_⟩
    have := f.2 r hr q hq (by omega)
    omega
  up := fun x y x' y' h h' z => by
    obtain ⟨_, h3⟩ := beg_num.mp h
    obtain ⟨⟨q, hq, h1, h2⟩, _⟩ := beg_num.mp h'
    have := h3 q hq (by omega)
    omega
  end_ := fun x h => by
    have h := beg_first.mp h
    refine ⟨h, fun x' y' z h' => ?_⟩
    obtain ⟨⟨q, hq, h1, h2⟩, _⟩ := beg_num.mp h'
    exact h q hq (by omega)
theorem back_high {rs : Rides} (f : Fit rs) : Back rs fun m => (begF rs m).2 where
  fst := rfl
  lst := rfl
  num := fun x => .inl ⟨_, rfl⟩
  msg := fun x y h r hr => by
    obtain ⟨h1, h2, h3⟩ := high_num h
    have hv := f.1 r hr
    refine ⟨fun z => ?_, fun z => ?_⟩
    · rcases h3 with h3 | ⟨q, hq, h4, h5⟩
      · omega
      · by_cases y : r.1 ≤ q.1 - 1
        · omega
        · have := f.2 q hq r hr (by omega)
          omega
    · by_cases y : x < r.2
      · have := h2 r hr y
        omega
      · omega
  up := fun x y x' y' h h' z => by
    obtain ⟨h1, h2, h3⟩ := high_num h
    obtain ⟨k1, k2, k3⟩ := high_num h'
    rcases h3 with h3 | ⟨q, hq, h4, h5⟩
    · omega
    · have := k2 q hq (by omega)
      omega
  end_ := fun x h => nomatch h
/-- rides along a way -/
structure AlongF (rs R : Rides) (G : Mom → Mom) : Prop where
  sub : ∀ r ∈ rs, r ∈ R
  is : ∀ r ∈ R, r ∈ rs ∨ G (.num r.1) = .num r.2
structure AlongB (rs R : Rides) (G : Mom → Mom) : Prop where
  sub : ∀ r ∈ rs, r ∈ R
  is : ∀ r ∈ R, r ∈ rs ∨ G (.num r.2) = .num r.1
theorem along_has {rs R : Rides} {G : Mom → Mom} (f : Fit rs) (w : Forth rs G) (a : AlongF rs R G) : hasF R rs = true :=
  (has_iff a.sub).mpr fun r hr q hq z => by
    rcases a.is q hq with h | h
    · exact f.2 r hr q h z
    · exact (w.msg _ _ h r hr).2 z
theorem alongB_has {rs R : Rides} {G : Mom → Mom} (f : Fit rs) (w : Back rs G) (a : AlongB rs R G) : hasF R rs = true :=
  (has_iff a.sub).mpr fun r hr q hq z => by
    rcases a.is q hq with h | h
    · exact f.2 r hr q h z
    · exact (w.msg _ _ h r hr).2 z
theorem along_step {rs R : Rides} {G : Mom → Mom} (w : Forth rs G) (a : AlongF rs R G) {m : Mom} (h : ∀ x y, m = .num x → G m = .num y → (x, y) ∈ R) : (endsF R m).2 = G m := by
  cases m with
  | first => exact w.fst.symm
  | last => exact w.lst.symm
  | num x =>
    rcases w.num x with ⟨y, hy⟩ | hy
    · rw [hy]
      refine end_num.mpr ⟨⟨_, h x y rfl hy, Int.le_refl _, rfl⟩, fun r hr z => ?_⟩
      rcases a.is r hr with k | k
      · exact (w.msg _ _ hy r k).1 z
      · exact w.up _ _ _ _ hy k z
    · rw [hy]
      refine end_last.mpr fun r hr z => ?_
      rcases a.is r hr with k | k
      · exact (w.end_ x hy).1 r k z
      · exact (w.end_ x hy).2 _ _ z k
theorem alongB_step {rs R : Rides} {G : Mom → Mom} (w : Back rs G) (a : AlongB rs R G) {m : Mom} (h : ∀ x y, m = .num x → G m = .num y → (y, x) ∈ R) : (begF R m).1 = G m := by
  cases m with
  | first => exact w.fst.symm
  | last => exact w.lst.symm
  | num x =>
    rcases w.num x with ⟨y, hy⟩ | hy
    · rw [hy]
      refine beg_num.mpr ⟨⟨_, h x y rfl hy, Int.le_refl _, rfl⟩, fun r hr z => ?_⟩
      rcases a.is r hr with k | k
      · exact (w.msg _ _ hy r k).1 z
      · exact w.up _ _ _ _ hy k z
    · rw [hy]
      refine beg_first.mpr fun r hr z => ?_
      rcases a.is r hr with k | k
      · exact (w.end_ x hy).1 r k z
      · exact (w.end_ x hy).2 _ _ z k
/-- what a link's needed rides lead to -/
theorem ended_is {rs ns : Rides} (h : IsNeeded rs ns) (m : Mom) : endedL ns m = (endsF rs m).2 := by
  cases m with
  | first => rfl
  | last => rfl
  | num t =>
    rw [← end_needed h]
    have hasc : (ns.filterMap fun r => if r.1 ≥ t then some r.2 else none).Pairwise (· < ·) := by
      have ha := h.asc
      rw [List.pairwise_filterMap]
      refine ha.imp fun {a b} hab x hx y hy => ?_
      split at hx
      · split at hy
        · cases hx; cases hy; exact hab.2
        · cases hy
      · cases hx
    show (match ns.filterMap (fun r => if r.1 ≥ t then some r.2 else none) with
      | [] => Mom.last
      | e :: _ => Mom.num e) = numLate (ns.filterMap fun r => if r.1 ≥ t then some r.2 else none)
    revert hasc
    generalize (ns.filterMap fun r => if r.1 ≥ t then some r.2 else none) = es
    intro hasc
    cases es with
    | nil => rfl
    | cons e l =>
      show Mom.num e = Mom.num (minL e l)
      have h1 := (minL_le l e).1
      have h2 := minL_mem l e
      have hp := (List.pairwise_cons.mp hasc).1
      congr 1
      rcases List.mem_cons.mp h2 with z | z
      · exact z.symm
      · have := hp _ z
        omega
theorem begun_is {rs ns : Rides} (h : IsNeeded rs ns) (m : Mom) : begunL ns m = (begF rs m).1 := by
  cases m with
  | first => rfl
  | last => rfl
  | num t =>
    have hasc : (ns.filterMap fun r => if r.2 ≤ t then some r.1 else none).Pairwise (· < ·) := by
      have ha := h.asc
      rw [List.pairwise_filterMap]
      refine ha.imp fun {a b} hab x hx y hy => ?_
      split at hx
      · split at hy
        · cases hx; cases hy; exact hab.1
        · cases hy
      · cases hx
    have e1 : (begF ns (.num t)).1 = begunL ns (.num t) := by
      show numEarly (ns.filterMap fun r => if r.2 ≤ t then some r.1 else none) = (match (ns.filterMap fun r => if r.2 ≤ t then some r.1 else none).reverse with
        | [] => Mom.first
        | b :: _ => Mom.num b)
      revert hasc
      generalize (ns.filterMap fun r => if r.2 ≤ t then some r.1 else none) = es
      intro hasc
      cases er : es.reverse with
      | nil =>
        have : es = [] := by rw [← List.reverse_reverse es, er]; rfl
        subst this; rfl
      | cons b l =>
        have ee : es = l.reverse ++ [b] := by rw [← List.reverse_reverse es, er, List.reverse_cons]
        have hb : ∀ z ∈ es, z ≤ b := fun z hz => by
          rw [ee] at hasc hz
          rcases List.mem_append.mp hz with hz | hz
          · have := (List.pairwise_append.mp hasc).2.2 z hz b (List.mem_singleton_self _)
            omega
          · rw [List.mem_singleton.mp hz]; exact Int.le_refl _
        have hm : b ∈ es := by rw [ee]; exact List.mem_append_right _ (List.mem_singleton_self _)
        exact early_num.mpr ⟨hm, hb⟩
    rw [← e1]
    cases e : (begF rs (.num t)).1 with
    | first =>
      rw [beg_first] at e ⊢
      exact fun n hn => e n (h.sub n hn)
    | last => rcases early_is (rs := rs) (t := t) with ⟨_, z⟩ | z <;> rw [e] at z <;> cases z
    | num x =>
      rw [beg_num] at e ⊢
      obtain ⟨⟨r, hr, h1, h2⟩, h3⟩ := e
      obtain ⟨n, hn, h4, h5⟩ := h.cov r hr
      have h6 := h3 n (h.sub n hn) (by omega)
      exact ⟨⟨n, hn, by omega, by omega⟩, fun q hq hz => h3 q (h.sub q hq) hz⟩
/-! a drawn timetable -/
def Mle (a b : Mom) : Prop := a = .first ∨ b = .last ∨ ∃ x y, a = .num x ∧ b = .num y ∧ x ≤ y
theorem Mle.refl (m : Mom) : Mle m m := by
  cases m with
  | first => exact .inl rfl
  | last => exact .inr (.inl rfl)
  | num x => exact .inr (.inr ⟨x, x, rfl, rfl, Int.le_refl _⟩)
theorem Mle.place {a b : Mom} (h : Mle a b) (ha : nearM a) (hb : nearM b) : placeM a ≤ placeM b := by
  rcases h with rfl | rfl | ⟨x, y, rfl, rfl, z⟩
  · cases b with
    | first => exact Int.le_refl _
    | last => show (0 : Int) - 10 ^ 45 ≤ 10 ^ 45; omega
    | num y => have hb : y.natAbs ≤ 10 ^ 40 := hb; show (0 : Int) - 10 ^ 45 ≤ y; omega
  · cases a with
    | first => show (0 : Int) - 10 ^ 45 ≤ 10 ^ 45; omega
    | last => exact Int.le_refl _
    | num y => have ha : y.natAbs ≤ 10 ^ 40 := ha; show y ≤ (10 : Int) ^ 45; omega
  · exact z
/-- a line that has all messages of its letter -/
structure LineOf (rs R : Rides) : Prop where
  ok : ∀ r ∈ R, r.1 ≤ r.2
  has : ∀ m ∈ rs, IsEnd R m.1 m.2
theorem line_forth {rs R : Rides} (w : LineOf rs R) {lo x hi : Mom} (h1 : Mle lo x) (h2 : Mle x hi) : Mle (endsF rs lo).1 (endsF R x).2 ∧ Mle (endsF R x).2 (endsF rs hi).2 := by
  refine ⟨?_, ?_⟩
  · rcases h1 with rfl | rfl | ⟨a, t, rfl, rfl, z⟩
    · exact .inl rfl
    · exact .inr (.inl rfl)
    · rcases late_is (rs := R) (t := t) with ⟨e, he⟩ | he
      · rw [he]
        obtain ⟨⟨q, hq, k1, k2⟩, k3⟩ := end_num.mp he
        have hv := w.ok q hq
        refine .inr (.inr ⟨_, e, rfl, rfl, ?_⟩)
        obtain ⟨y, hy⟩ : ∃ y, (endsF rs (.num a)).1 = .num y := ⟨_, rfl⟩
        obtain ⟨j1, j2, j3⟩ := low_num hy
        have hy : maxL a (rs.filterMap fun r => if r.1 ≤ a then some r.2 else none) = y := Mom.num.inj hy
        rw [hy]
        rcases j3 with j3 | ⟨r, hr, j4, j5⟩
        · omega
        · have := (w.has r hr).2 q hq (by omega)
          omega
      · exact .inr (.inl he)
  · rcases h2 with rfl | rfl | ⟨t, a, rfl, rfl, z⟩
    · exact .inl rfl
    · exact .inr (.inl rfl)
    · rcases late_is (rs := rs) (t := a) with ⟨e, he⟩ | he
      · obtain ⟨⟨r, hr, k1, k2⟩, k3⟩ := end_num.mp he
        obtain ⟨⟨q, hq, k4, k5⟩, _⟩ := w.has r hr
        rcases late_is (rs := R) (t := t) with ⟨e', he'⟩ | he'
        · have := (end_num.mp he').2 q hq (by omega)
          rw [he, he']
          exact .inr (.inr ⟨e', e, rfl, rfl, by omega⟩)
        · exact absurd (end_last.mp he' q hq) (by omega)
      · exact .inr (.inl he)
theorem line_back {rs R : Rides} (w : LineOf rs R) {lo x hi : Mom} (h1 : Mle lo x) (h2 : Mle x hi) : Mle (begF rs lo).1 (begF R x).1 ∧ Mle (begF R x).1 (begF rs hi).2 := by
  refine ⟨?_, ?_⟩
  · rcases h1 with rfl | rfl | ⟨a, t, rfl, rfl, z⟩
    · exact .inl rfl
    · exact .inr (.inl rfl)
    · rcases early_is (rs := rs) (t := a) with ⟨s, hs⟩ | hs
      · obtain ⟨⟨r, hr, k1, k2⟩, k3⟩ := beg_num.mp hs
        obtain ⟨⟨q, hq, k4, k5⟩, _⟩ := w.has r hr
        rcases early_is (rs := R) (t := t) with ⟨s', hs'⟩ | hs'
        · have := (beg_num.mp hs').2 q hq (by omega)
          rw [hs, hs']
          exact .inr (.inr ⟨s, s', rfl, rfl, by omega⟩)
        · exact absurd (beg_first.mp hs' q hq) (by omega)
      · exact .inl hs
  · rcases h2 with rfl | rfl | ⟨t, a, rfl, rfl, z⟩
    · exact .inl rfl
    · exact .inr (.inl rfl)
    · rcases early_is (rs := R) (t := t) with ⟨s, hs⟩ | hs
      · rw [hs]
        obtain ⟨⟨q, hq, k1, k2⟩, k3⟩ := beg_num.mp hs
        have hv := w.ok q hq
        obtain ⟨y, hy⟩ : ∃ y, (begF rs (.num a)).2 = .num y := ⟨_, rfl⟩
        obtain ⟨j1, j2, j3⟩ := high_num hy
        rw [hy]
        refine .inr (.inr ⟨s, y, rfl, rfl, ?_⟩)
        rcases j3 with j3 | ⟨r, hr, j4, j5⟩
        · omega
        · by_cases u : r.1 ≤ q.1
          · have := (w.has r hr).2 q hq u
            omega
          · omega
      · exact .inl hs
/-- a row by a table's rides -/
def goR (R : Nat → Rides) (c : Nat) (m : Mom) : Mom := if low c = true then (endsF (R c) m).2 else (begF (R (lo1 c)) m).1
theorem go_between {ms : List Ms} {R : Nat → Rides} : ∀ (l : List Nat) (lo x hi : Mom), (∀ c ∈ l, LineOf (ridesL ms (if low c = true then c else lo1 c)) (R (if low c = true then c else lo1 c))) → Mle lo x → Mle x hi →
    Mle (l.foldl (fun m c => lowF ms c m) lo) (l.foldl (fun m c => goR R c m) x) ∧ Mle (l.foldl (fun m c => goR R c m) x) (l.foldl (fun m c => highF ms c m) hi)
  | [], lo, x, hi, _, h1, h2 => ⟨h1, h2⟩
  | c :: l, lo, x, hi, hw, h1, h2 => by
    have hc := hw c (List.mem_cons_self ..)
    rw [List.foldl_cons, List.foldl_cons, List.foldl_cons]
    have z : Mle (lowF ms c lo) (goR R c x) ∧ Mle (goR R c x) (highF ms c hi) := by
      unfold lowF goR highF
      by_cases e : low c = true
      · rw [if_pos e] at hc
        rw [if_pos e, if_pos e, if_pos e]
        exact line_forth hc h1 h2
      · rw [if_neg e] at hc
        rw [if_neg e, if_neg e, if_neg e]
        exact line_back hc h1 h2
    exact go_between l _ _ _ (fun d hd => hw d (List.mem_cons_of_mem _ hd)) z.1 z.2
end Nw

namespace Nw
open PySem PySem.Spec PyProof.Rows L2
/-! ### links compared; facts between letters -/
def sp_is_earlier (K : PySem.W.Frag) : Sp := fun vs H Q _ => ∃ a b : Mom, vs = [a.v, b.v] ∧ Q (.bl (a.lt b)) H
def leB (na nb : Rides) : Bool := nb.all fun r => !(Mom.num r.2).lt (endedL na (.num r.1))
def sp_Link__le (K : PySem.W.Frag) : Sp := fun vs H Q _ => ∃ (I : Hp) (v1 v2 : V) (na nb : Rides), vs = [v1, v2] ∧ isLink K I v1 na ∧ isLink K I v2 nb ∧ na.length ≤ 60 ∧ nb.length ≤ 60 ∧ Same I H ∧ ∀ I' H', Grow No I H I' H' → Q (.bl (leB na nb)) H'
abbrev Fc := Nat × Nat
def fcT (p : Fc) : HO := .tup [.str (sg p.1), .str (sg p.2)]
def isFc (I : Hp) (v : V) (p : Fc) : Prop := ∃ a, v = .ref a ∧ I a = some (fcT p)
theorem isFc.up {I I' : Hp} {v : V} {p : Fc} (h : isFc I v p) (e : Same I I') : isFc I' v p := let ⟨a, h1, h2⟩ := h; ⟨a, h1, e _ _ h2⟩
structure FcR where
  p : Fc
instance : Rep FcR := ⟨fun I v x => isFc I v x.p, fun e h => h.up e⟩
theorem fcr_paired {I : Hp} : ∀ {vs : List V} {xs : List FcR}, Paired (Rep.is I) vs xs → Paired (isFc I) vs (xs.map FcR.p)
  | _, _, .nil => .nil
  | _, _, .cons h t => .cons h (fcr_paired t)
def isLt (c : Nat) : Prop := 97 ≤ c ∧ c ≤ 100
def okFc (p : Fc) : Prop := isLt p.1 ∧ isLt p.2 ∧ p.1 ≠ p.2
theorem sgV_eq {a b : Nat} : decide (V.str (sg a) = V.str (sg b)) = decide (a = b) := by
  by_cases h : a = b
  · rw [h, decide_eq_true rfl, decide_eq_true rfl]
  · rw [decide_eq_false h, decide_eq_false fun z => h (sg_inj (V.str.inj z))]
def sp_need_table (K : PySem.W.Frag) : Sp := fun vs H Q _ => ∃ (a dx : Addr) (fs : List (Str × V)), vs = [.ref a] ∧ H a = some (.ins (He.ga K "Timetable") dx fs) ∧ Q .non H
def sp_is_fact (K : PySem.W.Frag) : Sp := fun vs H Q _ => ∃ (I : Hp) (v : V) (p : Fc), vs = [v] ∧ isFc I v p ∧ okFc p ∧ Same I H ∧ Q (.bl true) H
def sp_need_facts (K : PySem.W.Frag) : Sp := fun vs H Q _ => ∃ (I : Hp) (a : Addr) (t : Bool) (ws : List V) (fs : List Fc), vs = [.ref a] ∧ I a = some (ho t ws) ∧ Paired (isFc I) ws fs ∧ (∀ p ∈ fs, okFc p) ∧ fs.length ≤ 12 ∧ Same I H ∧ ∀ I' H', Grow No I H I' H' → Q .non H'
def plM : Mom → Int
  | .first => 0 - 10 ^ 50
  | .last => 10 ^ 50
  | .num t => t
def sp_l_place (K : PySem.W.Frag) : Sp := fun vs H Q _ => ∃ m : Mom, vs = [m.v] ∧ Q (.int (plM m)) H
def sp_l_rides (K : PySem.W.Frag) : Sp := fun vs H Q _ => ∃ (I : Hp) (D : DA) (n many wide : Nat), vs = [.ref D.d, .int many, .int wide] ∧ Drw D n I H ∧ n + 4 * many + 4 < lim ∧ many ≤ 1000 ∧ 1 ≤ wide ∧ wide ≤ 1000000 ∧
  ∀ (rs : Rides) v I' H', rs.length ≤ many → (∀ r ∈ rs, r.1 ≤ r.2 ∧ r.1.natAbs < 5000000 ∧ r.2.natAbs < 5000000) → Grow (TD D) I H I' H' → isL I' v rs → Drw D (n + 4 * many + 4) I' H' → Q v H'
def goodR (n : Nat) (rs : Rides) : Prop := rs.length ≤ n ∧ ∀ r ∈ rs, r.1 ≤ r.2 ∧ r.1.natAbs < 5000000 ∧ r.2.natAbs < 5000000
abbrev Lns := List (KvP Rides)
def isLines (I : Hp) (v : V) (ls : Lns) : Prop := ∃ d kvs, v = .ref d ∧ I d = some (.dK (kvs.map kvS)) ∧ kvP I kvs ls
theorem isLines.up {I I' : Hp} {v : V} {ls : Lns} (h : isLines I v ls) (e : Same I I') : isLines I' v ls := by
  obtain ⟨d, kvs, h1, h2, h3⟩ := h
  exact ⟨d, kvs, h1, e _ _ h2, h3.up e⟩
def sp_l_lines (K : PySem.W.Frag) : Sp := fun vs H Q _ => ∃ (I : Hp) (D : DA) (n : Nat) (l : List Nat) (many wide : Nat), vs = [.ref D.d, .str (mk l), .int many, .int wide] ∧ Drw D n I H ∧ n + 200 < lim ∧ l.length ≤ 4 ∧ l.Nodup ∧ many ≤ 8 ∧ 1 ≤ wide ∧ wide ≤ 1000 ∧
  ∀ (ls : Lns) v I' H', ls.map (·.c) = l → (∀ p ∈ ls, goodR many p.x) → isLines I' v ls → Grow (TD D) I H I' H' → Drw D (n + 200) I' H' → Q v H'
theorem os_keys {α : Type} {G : Nat → α → Prop} : ∀ {l : List Nat} {os : List (Option (KvP α))}, os.length = l.length → (∀ (i : Nat) (o : Option (KvP α)), os[i]? = some o → ∃ c x, l[i]? = some c ∧ o = some ⟨c, x⟩ ∧ G c x) → ((os.filterMap id).map (·.c) = l ∧ ∀ p ∈ os.filterMap id, G p.c p.x)
  | [], [], _, _ => ⟨rfl, fun _ z => nomatch z⟩
  | [], _ :: _, h, _ => by simp at h
  | _ :: _, [], h, _ => by simp at h
  | c :: l, o :: os, h, hP => by
    obtain ⟨c', x, h1, rfl, h3⟩ := hP 0 o rfl
    cases h1
    obtain ⟨e1, e2⟩ := os_keys (G := G) (l := l) (os := os) (by simpa using h) fun i o e => hP (i + 1) o e
    refine ⟨?_, fun p hp => ?_⟩
    · show c :: (os.filterMap id).map (·.c) = _
      rw [e1]
    · rcases List.mem_cons.mp (show p ∈ (⟨c, x⟩ : KvP α) :: os.filterMap id from hp) with rfl | hp
      · exact h3
      · exact e2 p hp

section
variable {P : Program} {w : World} {K : PySem.W.Frag} {mg : Str → Option Value} {base : Heap}
theorem ok_is_earlier (T : Txt K mg) (F : FnAt K "is_earlier" "is_earlier" s_is_earlier (He.ga K "is_earlier"))  : Ok P w K mg base CX0 1 (He.ga K "is_earlier") ["one", "other"] (sp_is_earlier K) := by
  refine ok_of F sc_is_earlier (fun _ _ _ _ _ _ us hl => match us, hl with | [_, _], _ => rfl) (fun vs H Q E h => ?_) (fun cdv A outer s H vs Q E hr h => ?_)
  · obtain ⟨_, _, rfl, _⟩ := h
    rfl
  · obtain ⟨a, b, rfl, k⟩ := h
    refine ⟨_, (pss_cons (ps_if (PW.pt (pw_or (pt_cmpR op_eq (pv 0) (pv 1) (nomark _)) (pw_or (pt_cmpR op_eq (pv 0) (pe_gstr T.c_LAST) (nomark _)) (pw_or1 (pt_cmpR op_eq (pv 1) (pe_gstr T.c_FIRST) (nomark _)))))) (pss_one (ps_ret pe_bl)) pss_nil)
      (pss_one (ps_ret (pe_or (pe_cmpR op_eq (pv 0) (pe_gstr T.c_FIRST) (nomark _)) (pe_or (pe_cmpR op_eq (pv 1) (pe_gstr T.c_LAST) (nomark _)) (pe_one (pe_cmpR op_lt (pv 0) (pv 1) (nomark _)))))))), ?_⟩
    refine ⟨_, rfl, _, rfl, a.scal b, _, rfl, ?_⟩
    rw [Mom.eqv]
    by_cases h1 : a = b
    · subst h1
      rw [decide_eq_true rfl]
      have e : a.lt a = false := by cases a <;> simp [Mom.lt]
      rw [e] at k
      exact iteT k
    rw [decide_eq_false h1]
    refine iteF ⟨_, rfl, a.scal .last, _, rfl, ?_⟩
    have e2 : decide (a.v = .str "last") = decide (a = .last) := a.eqv .last
    rw [e2]
    by_cases h2 : a = .last
    · subst h2
      rw [decide_eq_true rfl]
      exact iteT k
    rw [decide_eq_false h2]
    refine iteF ⟨_, rfl, b.scal .first, _, rfl, ?_⟩
    have e3 : decide (b.v = .str "first") = decide (b = .first) := b.eqv .first
    rw [e3]
    by_cases h3 : b = .first
    · subst h3
      rw [decide_eq_true rfl]
      have e : a.lt .first = false := by cases a <;> simp [Mom.lt]
      rw [e] at k
      exact iteT k
    rw [decide_eq_false h3]
    refine iteF ?_
    refine ⟨_, rfl, a.scal .first, _, rfl, ?_⟩
    have e4 : decide (a.v = .str "first") = decide (a = .first) := a.eqv .first
    rw [e4]
    by_cases h4 : a = .first
    · subst h4
      rw [decide_eq_true rfl]
      have e : Mom.lt .first b = true := by cases b <;> first | rfl | exact absurd rfl h3
      rw [e] at k
      exact iteT k
    rw [decide_eq_false h4]
    refine iteF ⟨_, rfl, b.scal .last, _, rfl, ?_⟩
    have e5 : decide (b.v = .str "last") = decide (b = .last) := b.eqv .last
    rw [e5]
    by_cases h5 : b = .last
    · subst h5
      rw [decide_eq_true rfl]
      have e : a.lt .last = true := by cases a <;> first | rfl | exact absurd rfl h4 | exact absurd rfl h2
      rw [e] at k
      exact iteT k
    rw [decide_eq_false h5]
    match a, b, h2, h3, h4, h5, k with
    | .num s, .num t, _, _, _, _, k => exact iteF ⟨_, rfl, _, rfl, _, _, rfl, rfl, k⟩
    | .first, _, _, _, h4, _, _ => exact absurd rfl h4
    | .last, _, h2, _, _, _, _ => exact absurd rfl h2
    | .num _, .first, _, h3, _, _, _ => exact absurd rfl h3
    | .num _, .last, _, _, _, h5, _ => exact absurd rfl h5
theorem ok_Link__le (T : Txt K mg) (F : FnAt K "__le__" "Link.__le__" s_Link__le (He.ma K (He.ga K "Link") "__le__")) (G_is_earlier : Ok P w K mg base CX0 1 (He.ga K "is_earlier") ["one", "other"] (sp_is_earlier K)) (G_ended : Ok P w K mg base CX0 1 (He.ga K "ended") ["rides", "moment"] (sp_ended K)) : Ok P w K mg base CX0 3 (He.ma K (He.ga K "Link") "__le__") ["self", "other"] (sp_Link__le K) := by
  refine ok_of F sc_Link__le (fun _ _ _ _ _ _ us hl => match us, hl with | [_, _], _ => rfl) (fun vs H Q E h => ?_) (fun cdv A outer s H vs Q E hr h => ?_)
  · obtain ⟨_, _, _, _, _, rfl, _⟩ := h
    rfl
  · obtain ⟨I, v1, v2, na, nb, rfl, ⟨a, dx, t, rfl, ha, hu⟩, ⟨b, dy, t2, rfl, hb, hu2⟩, hza, hzb, sb, k⟩ := h
    refine ⟨_, (pss_one (ps_ret (pe_callB (cr_all rfl) (by rfl) T.b_all (by decide +kernel) (pa_cons (pe_lc (own := [("begin", 2), ("end", 3)]) (g := (gTup K 2 (gCons (gName 2) (gCons (gName 3) gNil)))) rfl sc_Link__le.nd (pi_tup (pe_fld (pv 1) rfl)) (blkOk_by (own := [("begin", 2), ("end", 3)]) (N := n_Link__le) (sc := defScope s_Link__le) (by decide +kernel)) (fun _ _ _ _ _ => (pg_tup (by rfl) (pgs_cons (pg_name (i := 2) sc_Link__le.nd rfl (Or.inl rfl)) (pgs_cons (pg_name (i := 3) sc_Link__le.nd rfl (Or.inl rfl)) pgs_nil)))) (fun _ _ _ _ _ => pts_nil) (fun _ _ _ _ _ => (pe_not (pe_callC G_is_earlier (hr.mono (by decide)) T.g_is_earlier (pa_cons (pv 3) (pa_cons (pe_callC G_ended (hr.mono (by decide)) T.g_ended (pa_cons (pe_fldK (K := K) rfl (pv 0) rfl) (pa_cons (pv 2) pa_nil))) pa_nil)))))) pa_nil)))), ?_⟩
    obtain ⟨q, ws, rfl, hq, hqq⟩ := hu2
    have l2 := Nw.Paired.len hqq
    refine ⟨_, rfl, b, _, dy, _, _, rfl, sb _ _ hb, T.cl_Link, T.na_Link_own_rides, rfl, q, rfl, ⟨_, SqT.of (sb _ _ hq)⟩, fun L hL => ?_⟩
    refine lc_pure (β := Bool) walk_tup nb (fun r => some (!(Mom.num r.2).lt (endedL na (.num r.1)))) l2.symm sb hL (by rw [l2]; omega) (fun I' H' g => SqT.of (g.sub _ _ (g.view _ _ hq))) ?_ ?_
    · rintro i r x I' H' H'' hr g ⟨rfl, hx⟩ Kn Ky kn ky
      obtain ⟨x', hx', c, w1, w2, rfl, hc, h1, h2⟩ := Nw.Paired.at hqq hr
      rw [hx] at hx'
      cases hx'
      cases h1
      cases h2
      refine ⟨c, _, rfl, SqT.of (g.sub _ _ (g.view _ _ hc)), rfl, _, _, rfl, _, _, rfl, rfl, rfl, lc_yes ?_⟩
      refine ⟨_, rfl, _, rfl, a, _, dx, _, _, rfl, g.sub _ _ (g.view _ _ ha), T.cl_Link, T.na_Link_own_rides, rfl, _, rfl, I', t, na, .num r.1, rfl, hu.up g.view, by omega, g.sub, fun I2 H2 g2 => ?_⟩
      refine ⟨.num r.2, endedL na (.num r.1), rfl, _, rfl, ?_⟩
      exact ky _ rfl _ _ _ g2 rfl
    · intro I1 H1 vs1 g1 ow hp1
      have e2 := Paired.bls hp1
      rw [fm_some] at e2
      subst e2
      refine ⟨L, _, rfl, SqL.of ow.at_, ?_⟩
      have e3 : (nb.map fun r => !(Mom.num r.2).lt (endedL na (.num r.1))).all id = leB na nb := by
        rw [List.all_map]; rfl
      rw [e3]
      exact k I1 H1 g1
theorem ok_l_rides (T : Txt K mg) (F : FnAt K "_law_rides" "_law_rides" s_l_rides (He.ga K "_law_rides")) (G_l_next : Ok P w K mg base CX0 1 (He.ga K "_law_next") ["_law_draw", "_law_many"] (sp_l_next K)) : Ok P w K mg base CX0 2 (He.ga K "_law_rides") ["_law_draw", "_law_many", "_law_wide"] (sp_l_rides K) := by
  refine ok_of F sc_l_rides (fun _ _ _ _ _ _ us hl => match us, hl with | [_, _, _], _ => rfl) (fun vs H Q E h => ?_) (fun cdv A outer s H vs Q E hr h => ?_)
  · obtain ⟨_, _, _, _, _, rfl, _⟩ := h
    rfl
  · obtain ⟨I, D, n, many, wide, rfl, dr, hn, hm, hw0, hw1, k⟩ := h
    refine ⟨_, (pss_cons (ps_set (i := 3) sc_l_rides.nd rfl (Or.inl rfl) (pe_lst pa_nil))
      (pss_cons (ps_for PassesOwn.never rfl (pi_range1 rfl T.b_range (pa_cons (pe_callC G_l_next (hr.mono (by decide)) T.g__law_next (pa_cons (pv 0) (pa_cons (pe_op op_add (pv 1) pe_int) pa_nil))) pa_nil)) (pg_name (i := 4) sc_l_rides.nd rfl (Or.inl rfl)) (pss_cons (ps_set (i := 5) sc_l_rides.nd rfl (Or.inl rfl) (pe_op op_sub (pe_callC G_l_next (hr.mono (by decide)) T.g__law_next (pa_cons (pv 0) (pa_cons (pe_op op_mul pe_int (pv 2)) pa_nil))) (pv 2)))
      (pss_one (ps_expr (pe_bm PySem.F.plainAttrs_list PySem.F.slot_list_append PySem.F.type_list_append mt_append (pv 3) (pa_cons (pe_tup (pa_cons (pv 5) (pa_cons (pe_op op_add (pv 5) (pe_op op_mul (pe_callC G_l_next (hr.mono (by decide)) T.g__law_next (pa_cons (pv 0) (pa_cons (pv 2) pa_nil))) (pe_callTy call_int1 (by rfl) T.b_int (by decide +kernel) (pa_cons (pe_cmpR op_gt (pe_callC G_l_next (hr.mono (by decide)) T.g__law_next (pa_cons (pv 0) (pa_cons pe_int pa_nil))) pe_int (nomark _)) pa_nil)))) pa_nil))) pa_nil))))))
      (pss_one (ps_ret (pv 3))))), ?_⟩
    refine ⟨Nat.zero_le _, fun L hL => ?_⟩
    have nt : ¬ TD D L := fun t => dr.live L t hL
    have g0 : Grow (TD D) I H I (upd H L (.lst [])) := Grow.mine dr.sub hL
    have ow0 : Own (TD D) H L (.lst []) I (upd H L (.lst [])) := Own.new dr.sub (.inl (Same.refl H)) dr.live hL
    refine ⟨_, rfl, _, rfl, _, _, rfl, rfl, I, D, n, _, rfl, dr.grow (Grow.mine dr.sub hL), by omega, by omega, by omega, fun r H1 h0 h1 g1 d1 => ?_⟩
    have gg := g0.trans g1
    have ow1 := ow0.grow g1
    refine ⟨r, rfl, by omega, by omega, ?_⟩
    refine for_it (walk_range (lo := 0) (n := r.toNat)) (fun i σ H' => ∃ (I' : Hp) (rs : Rides) (ws : List V) (v4 v5 : Option V), σ = [some (.ref D.d), some (.int many), some (.int wide), some (.ref L), v4, v5] ∧ Grow (TD D) I H I' H' ∧ Own (TD D) H L (.lst ws) I' H' ∧ Drw D (n + 1 + 3 * i) I' H' ∧ Paired (Rep.is I') ws rs ∧ rs.length = i ∧ (∀ r ∈ rs, r.1 ≤ r.2 ∧ r.1.natAbs < 5000000 ∧ r.2.natAbs < 5000000))
      ⟨I, [], [], none, none, rfl, gg, ow1, d1, .nil, rfl, fun _ z => nomatch z⟩ (fun _ _ _ _ _ => trivial) ?_ ?_
    · rintro i x σ H2 H3 hi ⟨I2, rs, ws, v4, v5, rfl, g2, ow2, d2, hp, hl, hr2⟩ ⟨rfl, rfl⟩
      have hir : (i : Int) < r := by omega
      have him : i ≤ many := by omega
      refine ⟨_, rfl, _, rfl, _, _, rfl, rfl, .inl ⟨by decide, by decide⟩, I2, D, n + 1 + 3 * i, 2 * (wide : Int), rfl, d2, by omega, by omega, by omega, fun b H4 hb0 hb1 g4 d4 => ?_⟩
      refine ⟨_, rfl, _, _, rfl, rfl, ?_⟩
      have ow4 := ow2.grow g4
      refine ⟨_, rfl, .inl ⟨rfl, _, SqL.of ow4.at_⟩, _, rfl, _, rfl, _, rfl, _, rfl, I2, D, n + 1 + 3 * i + 1, (wide : Int), rfl, d4, by omega, by omega, by omega, fun e H5 he0 he1 g5 d5 => ?_⟩
      refine ⟨_, rfl, I2, D, n + 1 + 3 * i + 1 + 1, 4, rfl, d5, by decide, by decide, by omega, fun z H6 hz0 hz1 g6 d6 => ?_⟩
      refine ⟨_, _, rfl, rfl, .inr ⟨_, rfl, _, _, rfl, rfl, .inl ⟨by omega, by omega⟩, _, _, rfl, rfl, (by show 2 ≤ sizeLine; decide), fun t ht => ?_⟩⟩
      have ow6 := (ow4.grow g5).grow g6
      have gt : Grow (TD D) I2 H6 _ (upd H6 t (.tup [.int (b - wide), .int (b - wide + e * (if decide (0 < z) = true then 1 else 0))])) := Grow.new g6.sub ht
      have ow7 := ow6.grow gt
      have hf : (if decide (0 < z) = true then (1 : Int) else 0) = 1 ∨ (if decide (0 < z) = true then (1 : Int) else 0) = 0 := by split <;> simp
      have hval : b - wide ≤ b - wide + e * (if decide (0 < z) = true then 1 else 0) ∧ (b - wide).natAbs < 5000000 ∧ (b - wide + e * (if decide (0 < z) = true then 1 else 0)).natAbs < 5000000 := by
        rcases hf with q | q <;> rw [q] <;> omega
      have hlw : ws.length = i := by rw [Nw.Paired.len hp, hl]
      refine ⟨L, ws, _, rfl, rfl, ow7.at_, by rw [sizeLine_eq]; omega, _, rs ++ [(b - wide, b - wide + e * (if decide (0 < z) = true then 1 else 0))], ws ++ [.ref t], _, _, rfl, (((g2.trans g4).trans (g5.trans g6)).trans gt).put ow7, ow7.put, ((d6.grow (Grow.new g6.sub ht)).put ow7).mono (by omega), ?_, by simp [hl], fun r hr => ?_⟩
      · exact Paired.snoc (Paired.mono' (fun _ _ z => Rep.mono gt.view z) hp) ⟨t, _, _, rfl, upd_same, rfl, rfl⟩
      · rcases List.mem_append.mp hr with hr | hr
        · exact hr2 r hr
        · rw [List.mem_singleton] at hr
          subst hr
          exact hval
    · rintro σ H2 ⟨I2, rs, ws, v4, v5, rfl, g2, ow2, d2, hp, hl, hr2⟩
      refine ⟨_, rfl, k rs _ _ _ (by omega) hr2 (g2.give ow2) ⟨L, ws, rfl, upd_same, Paired.mono' (fun _ _ z => Rep.mono (Same.up ow2.ni) z) hp⟩ ((d2.give ow2).mono (by omega))⟩
theorem ok_l_lines (T : Txt K mg) (F : FnAt K "_law_lines" "_law_lines" s_l_lines (He.ga K "_law_lines")) (G_l_rides : Ok P w K mg base CX0 2 (He.ga K "_law_rides") ["_law_draw", "_law_many", "_law_wide"] (sp_l_rides K)) : Ok P w K mg base CX0 3 (He.ga K "_law_lines") ["_law_draw", "_law_letters", "_law_many", "_law_wide"] (sp_l_lines K) := by
  refine ok_of F sc_l_lines (fun _ _ _ _ _ _ us hl => match us, hl with | [_, _, _, _], _ => rfl) (fun vs H Q E h => ?_) (fun cdv A outer s H vs Q E hr h => ?_)
  · obtain ⟨_, _, _, _, _, _, rfl, _⟩ := h
    rfl
  · obtain ⟨I, D, n, l, many, wide, rfl, d0, hlim, hl4, hnd, hm, hw1, hw2, k⟩ := h
    refine ⟨_, (pss_one (ps_ret (pe_callTy (call_dictP rfl) (by rfl) T.b_dict (by decide +kernel) (pa_cons (pe_lc (own := [("_law_letter", 4)]) (g := (gName 4)) rfl sc_l_lines.nd (pi_str (pv 1)) (blkOk_by (own := [("_law_letter", 4)]) (N := n_l_lines) (sc := defScope s_l_lines) (by decide +kernel)) (fun _ _ _ _ _ => (pg_name (i := 4) sc_l_lines.nd rfl (Or.inl rfl))) (fun _ _ _ _ _ => pts_nil) (fun _ _ _ _ _ => (pe_tup (pa_cons (pv 4) (pa_cons (pe_callC G_l_rides (hr.mono (by decide)) T.g__law_rides (pa_cons (pv 0) (pa_cons (pv 2) (pa_cons (pv 3) pa_nil)))) pa_nil))))) pa_nil)))), ?_⟩
    refine ⟨_, rfl, _, rfl, fun L hL => ?_⟩
    refine lc_gen (T := TD D) (I := I) (β := KvP Rides) (walk_str (z := mk l)) (fun k => Drw D (n + 40 * k)) (fun _ => Stable.drw) d0.sub d0.live hL d0 (by show (mk l).length ≤ _; rw [mk_len]; omega) (fun _ _ _ _ _ => trivial) (fun j o => ∃ c rs, l[j]? = some c ∧ o = some ⟨c, rs⟩ ∧ goodR many rs) ?_ ?_
    · rintro j y I1 H1 H1' hj g1 d1 ⟨rfl, c, hc, rfl⟩ Kn Ky kn ky
      have hc' : l[j]? = some c := by simpa [mk] using hc
      have hj3 : j < l.length := (List.getElem?_eq_some_iff.mp hc').1
      refine ⟨rfl, lc_yes ?_⟩
      refine ⟨_, rfl, _, rfl, _, rfl, _, rfl, I1, D, _, many, wide, rfl, d1, by omega, by omega, hw1, by omega, fun rs va IA HA hra hra2 ga ila da => ?_⟩
      refine ⟨(by show 2 ≤ sizeLine; decide), fun q hq => ?_⟩
      have gq : Grow (TD D) IA HA _ (upd HA q (.tup [.str (sg c), va])) := Grow.new da.sub hq
      exact ky ⟨c, rs⟩ ⟨c, rs, hc', rfl, hra, hra2⟩ _ _ _ (ga.trans gq) ((da.grow (Grow.new da.sub hq)).mono (by omega)) ⟨q, _, rfl, upd_same, ila.up gq.view⟩
    intro os I1 H1 vs1 hlen hP g1 d1 ow hp1
    have hlen' : os.length = l.length := by rw [hlen]; show (mk l).length = _; rw [mk_len]
    obtain ⟨hk1, hk2⟩ := os_keys (G := fun _ rs => goodR many rs) hlen' hP
    revert hp1 hk1 hk2
    generalize os.filterMap id = ls
    intro hp1 hk1 hk2
    obtain ⟨ps, kvs, rfl, hps, hlk⟩ := kvP_of (K := K) d1.sub hp1
    have hkk : kvs.map (·.1) = l := by rw [hlk.keys]; exact hk1
    refine ⟨L, ps, kvs.map kvS, rfl, SqL.of ow.at_, hps, fun p hp => ?_⟩
    rw [keys_kvS (by rw [hkk]; exact hnd)]
    have gd : Grow (TD D) I1 H1 (upd I1 p (.dK (kvs.map kvS))) (upd H1 p (.dK (kvs.map kvS))) := Grow.new d1.sub hp
    have e : (mk l).cps.size = l.length := mk_len l
    rw [e] at d1
    exact k ls (.ref p) _ _ hk1 hk2 ⟨p, kvs, rfl, upd_same, hlk.up gd.view⟩ (g1.trans gd) ((d1.grow (Grow.new d1.sub hp)).mono (by omega))
theorem ok_need_table (T : Txt K mg) (F : FnAt K "need_table" "need_table" s_need_table (He.ga K "need_table"))  : Ok P w K mg base CX0 1 (He.ga K "need_table") ["table"] (sp_need_table K) := by
  refine ok_of F sc_need_table (fun _ _ _ _ _ _ us hl => match us, hl with | [_], _ => rfl) (fun vs H Q E h => ?_) (fun cdv A outer s H vs Q E hr h => ?_)
  · obtain ⟨_, _, _, rfl, _⟩ := h
    rfl
  · obtain ⟨a, dx, fs, rfl, ha, k⟩ := h
    refine ⟨_, (pss_one (ps_if (pt_not (pt_val (pe_callB call_isi (by rfl) T.b_isinstance (by decide +kernel) (pa_cons (pv 0) (pa_cons (pe_gref T.g_Timetable) pa_nil))))) (pss_one ps_never) pss_nil)), ?_⟩
    refine ⟨_, rfl, .ref a, .ref (He.ga K "Timetable"), _, _, true, rfl, .own _, T.is_Timetable.ty T.cl_Timetable ha, kit_self, true, rfl, iteF ?_⟩
    exact k
theorem ok_is_fact (T : Txt K mg) (F : FnAt K "is_fact" "is_fact" s_is_fact (He.ga K "is_fact"))  : Ok P w K mg base CX0 1 (He.ga K "is_fact") ["thing"] (sp_is_fact K) := by
  refine ok_of F sc_is_fact (fun _ _ _ _ _ _ us hl => match us, hl with | [_], _ => rfl) (fun vs H Q E h => ?_) (fun cdv A outer s H vs Q E hr h => ?_)
  · obtain ⟨_, _, _, rfl, _⟩ := h
    rfl
  · obtain ⟨I, v, p, rfl, ⟨a, rfl, ha⟩, ⟨h1, h2, h3⟩, sb, k⟩ := h
    refine ⟨_, (pss_cons (ps_if (PW.pt (pw_or (pt_not (pt_val (pe_callB call_isi (by rfl) T.b_isinstance (by decide +kernel) (pa_cons (pv 0) (pa_cons (pe_bltn (v := .ty "tuple") rfl T.b_tuple (by decide +kernel) rfl) pa_nil))))) (pw_or1 (pt_cmpR op_ne (pe_callB call_len_seq (by rfl) T.b_len (by decide +kernel) (pa_cons (pv 0) pa_nil)) pe_int (nomark _))))) (pss_one (ps_ret pe_bl)) pss_nil)
      (pss_cons (ps_for PassesOwn.never rfl (pi_tup (pv 0)) (pg_name (i := 1) sc_is_fact.nd rfl (Or.inl rfl)) (pss_one (ps_if (PW.pt (pw_or (pt_not (pt_val (pe_callB call_isi (by rfl) T.b_isinstance (by decide +kernel) (pa_cons (pv 1) (pa_cons (pe_bltn (v := .ty "str") rfl T.b_str (by decide +kernel) rfl) pa_nil))))) (pw_or (pt_cmpR op_ne (pe_callB call_len_str (by rfl) T.b_len (by decide +kernel) (pa_cons (pv 1) pa_nil)) pe_int (nomark _)) (pw_or1 (pt_cmpR op_notIn_sign (pv 1) (pe_gstr T.c_LINKS) rfl))))) (pss_one (ps_ret pe_bl)) pss_nil)))
      (pss_one (ps_ret (pe_cmpR op_ne (pe_ix ix_tup (pv 0) pe_int (fun _ _ => rfl)) (pe_ix ix_tup (pv 0) pe_int (fun _ _ => rfl)) (nomark _)))))), ?_⟩
    have hH := sb _ _ ha
    refine ⟨_, rfl, .ref a, .ty "tuple", _, _, true, rfl, .ty _, .base (.tup hH), kit_refl, true, rfl, iteF ?_⟩
    refine ⟨_, rfl, a, _, rfl, .inr (SqT.of hH), rfl, false, rfl, iteF ?_⟩
    refine ⟨_, rfl, a, rfl, ⟨_, SqT.of hH⟩, ?_⟩
    refine for_it (walk_tup (K := K) (a := a) (xs := [.str (sg p.1), .str (sg p.2)])) (fun i σ H' => ∃ v1 : Option V, σ = [some (.ref a), v1] ∧ H' = H) ⟨none, rfl, rfl⟩ (fun i σ H' _ ⟨_, _, e⟩ => by rw [e]; exact SqT.of hH) ?_ ?_
    · rintro i y σ H1 H2 hi ⟨v1, rfl, rfl⟩ ⟨rfl, hy⟩
      obtain ⟨c, rfl, hc⟩ : ∃ c, y = .str (sg c) ∧ isLt c := by
        have z := List.mem_of_getElem? hy
        simp only [List.mem_cons, List.not_mem_nil, or_false] at z
        rcases z with rfl | rfl
        · exact ⟨_, rfl, h1⟩
        · exact ⟨_, rfl, h2⟩
      refine ⟨_, rfl, .str (sg c), .ty "str", _, _, true, rfl, .ty _, .base (.str _), kit_refl, true, rfl, iteF ?_⟩
      refine ⟨_, rfl, sg c, rfl, (by show 1 ≤ sizeLine; decide), rfl, false, rfl, iteF ?_⟩
      refine ⟨_, rfl, c, _, rfl, rfl, false, ?_, iteF ⟨_, rfl, rfl⟩⟩
      rw [in_abcd, decide_eq_true (show 97 ≤ c ∧ c ≤ 100 from hc)] <;> rfl
    · rintro σ H1 ⟨v1, rfl, rfl⟩
      refine ⟨_, rfl, a, _, 0, _, rfl, rfl, SqT.of hH, mm_at0, _, rfl, a, _, 1, _, rfl, rfl, SqT.of hH, mm_at1, rfl, ?_⟩
      rw [sgV_eq, decide_eq_false h3]
      exact k
theorem ok_need_facts (T : Txt K mg) (F : FnAt K "need_facts" "need_facts" s_need_facts (He.ga K "need_facts")) (G_is_fact : Ok P w K mg base CX0 1 (He.ga K "is_fact") ["thing"] (sp_is_fact K)) : Ok P w K mg base CX0 2 (He.ga K "need_facts") ["facts"] (sp_need_facts K) := by
  refine ok_of F sc_need_facts (fun _ _ _ _ _ _ us hl => match us, hl with | [_], _ => rfl) (fun vs H Q E h => ?_) (fun cdv A outer s H vs Q E hr h => ?_)
  · obtain ⟨_, _, _, _, _, rfl, _⟩ := h
    rfl
  · obtain ⟨I, a, t, ws, fs, rfl, ha, hp, hf, hl, sb, k⟩ := h
    refine ⟨_, (pss_cons (ps_if (PW.pt (pw_or (pt_not (pt_val (pe_callB call_isiT (by rfl) T.b_isinstance (by decide +kernel) (pa_cons (pv 0) (pa_cons (pe_tup (pa_cons (pe_bltn (v := .ty "list") rfl T.b_list (by decide +kernel) rfl) (pa_cons (pe_bltn (v := .ty "tuple") rfl T.b_tuple (by decide +kernel) rfl) pa_nil))) pa_nil))))) (pw_or1 (pt_cmpR op_gt (pe_callB call_len_seq (by rfl) T.b_len (by decide +kernel) (pa_cons (pv 0) pa_nil)) (pe_gint T.c_MOST_FACTS) (nomark _))))) (pss_one ps_never) pss_nil)
      (pss_one (ps_if (pt_not (pt_val (pe_callB (cr_all rfl) (by rfl) T.b_all (by decide +kernel) (pa_cons (pe_lc (own := [("fact", 1)]) (g := (gName 1)) rfl sc_need_facts.nd (pi_seq (pv 0)) (blkOk_by (own := [("fact", 1)]) (N := n_need_facts) (sc := defScope s_need_facts) (by decide +kernel)) (fun _ _ _ _ _ => (pg_name (i := 1) sc_need_facts.nd rfl (Or.inl rfl))) (fun _ _ _ _ _ => pts_nil) (fun _ _ _ _ _ => (pe_callC G_is_fact (hr.mono (by decide)) T.g_is_fact (pa_cons (pv 1) pa_nil)))) pa_nil)))) (pss_one ps_never) pss_nil))), ?_⟩
    have hlen := Nw.Paired.len hp
    refine ⟨_, rfl, by decide, fun p hp1 => ?_⟩
    have g1 : Grow No I H I (upd H p (.tup [V.ty "list", V.ty "tuple"])) := Grow.mine sb hp1
    obtain ⟨nty, hty, hkit⟩ := ty_seq (K := K) (t := t) (a := a) (vs := ws) (g1.same _ _ (sb _ _ ha))
    refine ⟨.ref a, p, _, _, _, true, rfl, upd_same, .cons (.ty _) (.cons (.ty _) .nil), hty, hkit, true, rfl, iteF ?_⟩
    generalize upd H p (.tup [V.ty "list", V.ty "tuple"]) = H1 at g1 ⊢
    clear hty hkit hp1
    have hH := g1.sub _ _ ha
    refine ⟨_, rfl, a, ws, rfl, (by cases t with | false => exact .inl (SqL.of hH) | true => exact .inr (SqT.of hH)), _, _, rfl, rfl, false, ?_, iteF ?_⟩
    · exact congrArg V.bl (decide_eq_false (by omega))
    refine ⟨_, rfl, a, t, rfl, ⟨_, SqB.of hH⟩, fun L hL => ?_⟩
    refine lc_pure (β := Bool) walk_seq fs (fun _ => some true) hlen.symm g1.sub hL (by omega) (fun I' H' g => SqB.of (g.sub _ _ (g.view _ _ ha))) ?_ ?_
    · rintro j f y I' H' H'' hj g ⟨rfl, hy⟩ Kn Ky kn ky
      obtain ⟨v, hv, hr⟩ := Nw.Paired.at hp hj
      rw [hy] at hv
      cases hv
      exact ⟨rfl, lc_yes ⟨_, rfl, I', _, f, rfl, hr.up g.view, hf f (List.mem_of_getElem? hj), g.sub, ky true rfl _ _ _ (Grow.refl g.sub) rfl⟩⟩
    intro I2 H2 vs2 g2 ow hp2
    have e2 := Paired.bls hp2
    subst e2
    refine ⟨L, _, rfl, SqL.of ow.at_, true, ?_, iteF ?_⟩
    · have e : (fs.filterMap fun _ => some true).all id = true := by
        rw [List.all_eq_true]
        intro b hb
        obtain ⟨_, _, h2⟩ := List.mem_filterMap.mp hb
        cases h2
        rfl
      exact congrArg V.bl e
    exact k _ _ (g1.trans g2)
theorem ok_l_place (T : Txt K mg) (F : FnAt K "_law_place" "_law_place" s_l_place (He.ga K "_law_place"))  : Ok P w K mg base CX0 1 (He.ga K "_law_place") ["_law_moment"] (sp_l_place K) := by
  refine ok_of F sc_l_place (fun _ _ _ _ _ _ us hl => match us, hl with | [_], _ => rfl) (fun vs H Q E h => ?_) (fun cdv A outer s H vs Q E hr h => ?_)
  · obtain ⟨_, rfl, _⟩ := h
    rfl
  · obtain ⟨m, rfl, k⟩ := h
    refine ⟨_, (pss_cons (ps_if (pt_cmpR op_eq (pv 0) pe_str (nomark _)) (pss_one (ps_ret (pe_op op_sub pe_int (pe_op op_pow pe_int pe_int)))) pss_nil)
      (pss_one (ps_ret (pe_ifExp (pt_cmpR op_eq (pv 0) pe_str (nomark _)) (pe_op op_pow pe_int pe_int) (pv 0))))), ?_⟩
    refine ⟨_, rfl, m.scal .first, _, rfl, ?_⟩
    have e1 : decide (m.v = .str "first") = decide (m = .first) := m.eqv .first
    rw [e1]
    by_cases h1 : m = .first
    · subst h1
      rw [decide_eq_true rfl]
      exact iteT ⟨_, _, rfl, rfl, ⟨by decide, by decide, by decide⟩, _, _, rfl, rfl, k⟩
    rw [decide_eq_false h1]
    refine iteF ⟨_, rfl, m.scal .last, _, rfl, ?_⟩
    have e2 : decide (m.v = .str "last") = decide (m = .last) := m.eqv .last
    rw [e2]
    by_cases h2 : m = .last
    · subst h2
      rw [decide_eq_true rfl]
      exact iteT ⟨_, _, rfl, rfl, ⟨by decide, by decide, by decide⟩, k⟩
    rw [decide_eq_false h2]
    match m, h1, h2, k with
    | .num t, _, _, k => exact iteF ⟨_, rfl, k⟩
    | .first, h1, _, _ => exact absurd rfl h1
    | .last, _, h2, _ => exact absurd rfl h2
end
end Nw

namespace Nw
open PySem PySem.Spec PyProof.Rows L2
/-! ### the plain law: what follows from facts -/
def abcd : List Nat := [97, 98, 99, 100]
def addP (ps : List Fc) (p : Fc) : List Fc := if p ∈ ps then ps else ps ++ [p]
def nsInit : List Fc := abcd.foldl (fun ps c => addP ps (c, c)) []
def nsF (fs : List Fc) : List Fc := fs.foldl addP nsInit
def nsStep (m i : Nat) (ps : List Fc) (j : Nat) : List Fc := if (i, m) ∈ ps ∧ (m, j) ∈ ps then addP ps (i, j) else ps
def nsRow (m : Nat) (ps : List Fc) (i : Nat) : List Fc := abcd.foldl (nsStep m i) ps
def nsMid (ps : List Fc) (m : Nat) : List Fc := abcd.foldl (nsRow m) ps
def never (fs : List Fc) : List Fc := abcd.foldl nsMid (nsF fs)
theorem abcd_mem {c : Nat} : c ∈ abcd ↔ isLt c := by
  unfold abcd isLt
  simp only [List.mem_cons, List.not_mem_nil, or_false]
  omega
theorem mem_addP {ps : List Fc} {p q : Fc} : q ∈ addP ps p ↔ q ∈ ps ∨ q = p := by
  unfold addP
  split
  · exact ⟨.inl, fun z => z.elim id fun e => e ▸ by assumption⟩
  · rw [List.mem_append, List.mem_singleton]
theorem nodup_addP {ps : List Fc} {p : Fc} (h : ps.Nodup) : (addP ps p).Nodup := by
  unfold addP
  split
  · exact h
  · rename_i z
    exact List.nodup_append.mpr ⟨h, by simp, fun a ha b hb e => z (by rw [List.mem_singleton.mp hb] at e; rwa [← e])⟩
theorem mem_step {m i j : Nat} {ps : List Fc} {q : Fc} : q ∈ nsStep m i ps j ↔ q ∈ ps ∨ (q = (i, j) ∧ (i, m) ∈ ps ∧ (m, j) ∈ ps) := by
  unfold nsStep
  split
  · rename_i z
    rw [mem_addP]
    exact ⟨fun y => y.imp id fun e => ⟨e, z⟩, fun y => y.imp id fun e => e.1⟩
  · rename_i z
    exact ⟨.inl, fun y => y.elim id fun e => absurd e.2 z⟩
theorem mem_row (m i : Nat) : ∀ (js : List Nat) (ps : List Fc) (q : Fc), q ∈ js.foldl (nsStep m i) ps ↔ q ∈ ps ∨ ∃ j ∈ js, q = (i, j) ∧ (i, m) ∈ ps ∧ (m, j) ∈ ps
  | [], ps, q => ⟨.inl, fun y => y.elim id fun ⟨_, h, _⟩ => nomatch h⟩
  | j :: js, ps, q => by
    rw [List.foldl_cons, mem_row m i js, mem_step]
    have h1 : (i, m) ∈ nsStep m i ps j ↔ (i, m) ∈ ps := by
      rw [mem_step]
      exact ⟨fun y => y.elim id fun e => e.2.1, .inl⟩
    have h2 : ∀ k, (m, k) ∈ nsStep m i ps j ↔ (m, k) ∈ ps := fun k => by
      rw [mem_step]
      refine ⟨fun y => y.elim id fun ⟨e, _, e3⟩ => ?_, .inl⟩
      cases e
      exact e3
    constructor
    · rintro ((h | ⟨h, e⟩) | ⟨k, hk, e, e1, e2⟩)
      · exact .inl h
      · exact .inr ⟨j, List.mem_cons_self .., h, e⟩
      · exact .inr ⟨k, List.mem_cons_of_mem _ hk, e, h1.mp e1, (h2 k).mp e2⟩
    · rintro (h | ⟨k, hk, e, e1, e2⟩)
      · exact .inl (.inl h)
      · rcases List.mem_cons.mp hk with rfl | hk
        · exact .inl (.inr ⟨e, e1, e2⟩)
        · exact .inr ⟨k, hk, e, h1.mpr e1, (h2 k).mpr e2⟩
theorem mem_mid (m : Nat) : ∀ (is : List Nat) (ps : List Fc) (q : Fc), q ∈ is.foldl (nsRow m) ps ↔ q ∈ ps ∨ ∃ i ∈ is, ∃ j ∈ abcd, q = (i, j) ∧ (i, m) ∈ ps ∧ (m, j) ∈ ps
  | [], ps, q => ⟨.inl, fun y => y.elim id fun ⟨_, h, _⟩ => nomatch h⟩
  | i :: is, ps, q => by
    rw [List.foldl_cons, mem_mid m is]
    have h0 : ∀ q, q ∈ nsRow m ps i ↔ q ∈ ps ∨ ∃ j ∈ abcd, q = (i, j) ∧ (i, m) ∈ ps ∧ (m, j) ∈ ps := mem_row m i abcd ps
    have h1 : ∀ k, (k, m) ∈ nsRow m ps i ↔ (k, m) ∈ ps := fun k => by
      rw [h0]
      refine ⟨fun y => y.elim id fun ⟨j, _, e, e1, e2⟩ => ?_, .inl⟩
      cases e
      exact e1
    have h2 : ∀ k, (m, k) ∈ nsRow m ps i ↔ (m, k) ∈ ps := fun k => by
      rw [h0]
      refine ⟨fun y => y.elim id fun ⟨j, _, e, e1, e2⟩ => ?_, .inl⟩
      cases e
      exact e2
    rw [h0]
    constructor
    · rintro ((h | ⟨j, hj, e⟩) | ⟨i', hi, j, hj, e, e1, e2⟩)
      · exact .inl h
      · exact .inr ⟨i, List.mem_cons_self .., j, hj, e⟩
      · exact .inr ⟨i', List.mem_cons_of_mem _ hi, j, hj, e, (h1 _).mp e1, (h2 _).mp e2⟩
    · rintro (h | ⟨i', hi, j, hj, e, e1, e2⟩)
      · exact .inl (.inl h)
      · rcases List.mem_cons.mp hi with rfl | hi
        · exact .inl (.inr ⟨j, hj, e, e1, e2⟩)
        · exact .inr ⟨i', hi, j, hj, e, (h1 _).mpr e1, (h2 _).mpr e2⟩
/-- a relation that keeps the facts -/
structure Okr (fs : List Fc) (S : Nat → Nat → Prop) : Prop where
  refl : ∀ c ∈ abcd, S c c
  fact : ∀ f ∈ fs, S f.1 f.2
  trans : ∀ a b c, S a b → S b c → S a c
theorem fold_inv {α β : Type} {I : β → Prop} {f : β → α → β} : ∀ (l : List α) (b : β), I b → (∀ b, I b → ∀ a ∈ l, I (f b a)) → I (l.foldl f b)
  | [], _, h, _ => h
  | a :: l, b, h, k => fold_inv l (f b a) (k b h a (List.mem_cons_self ..)) fun b hb c hc => k b hb c (List.mem_cons_of_mem _ hc)
theorem init_all {I : List Fc → Prop} (h0 : I []) (h : ∀ ps, I ps → ∀ c ∈ abcd, I (addP ps (c, c))) : I nsInit := fold_inv abcd [] h0 h
theorem never_inv {fs : List Fc} {I : List Fc → Prop} (h0 : I []) (h1 : ∀ ps, I ps → ∀ c ∈ abcd, I (addP ps (c, c))) (h2 : ∀ ps, I ps → ∀ f ∈ fs, I (addP ps f)) (h3 : ∀ ps, I ps → ∀ m ∈ abcd, ∀ i ∈ abcd, ∀ j ∈ abcd, I (nsStep m i ps j)) : I (never fs) := by
  refine fold_inv abcd _ (fold_inv fs _ (init_all h0 h1) h2) fun ps hp m hm => ?_
  refine fold_inv abcd _ hp fun ps hp i hi => ?_
  exact fold_inv abcd _ hp fun ps hp j hj => h3 ps hp m hm i hi j hj
theorem never_nodup (fs : List Fc) : (never fs).Nodup := by
  refine never_inv (by simp) (fun ps h _ _ => nodup_addP h) (fun ps h _ _ => nodup_addP h) fun ps h m _ i _ j _ => ?_
  unfold nsStep
  split
  · exact nodup_addP h
  · exact h
theorem never_lt {fs : List Fc} (hf : ∀ f ∈ fs, isLt f.1 ∧ isLt f.2) : ∀ p ∈ never fs, isLt p.1 ∧ isLt p.2 := by
  refine never_inv (I := fun ps : List Fc => ∀ p ∈ ps, isLt p.1 ∧ isLt p.2) (fun _ h => nomatch h) (fun ps h c hc p hp => ?_) (fun ps h f hf' p hp => ?_) fun ps h m hm i hi j hj p hp => ?_
  · rcases mem_addP.mp hp with hp | rfl
    · exact h p hp
    · exact ⟨abcd_mem.mp hc, abcd_mem.mp hc⟩
  · rcases mem_addP.mp hp with hp | rfl
    · exact h p hp
    · exact hf _ hf'
  · rcases mem_step.mp hp with hp | ⟨rfl, _⟩
    · exact h p hp
    · exact ⟨abcd_mem.mp hi, abcd_mem.mp hj⟩
theorem never_min {fs : List Fc} {S : Nat → Nat → Prop} (ok : Okr fs S) : ∀ p ∈ never fs, S p.1 p.2 := by
  refine never_inv (I := fun ps : List Fc => ∀ p ∈ ps, S p.1 p.2) (fun _ h => nomatch h) (fun ps h c hc p hp => ?_) (fun ps h f hf' p hp => ?_) fun ps h m hm i hi j hj p hp => ?_
  · rcases mem_addP.mp hp with hp | rfl
    · exact h p hp
    · exact ok.refl c hc
  · rcases mem_addP.mp hp with hp | rfl
    · exact h p hp
    · exact ok.fact _ hf'
  · rcases mem_step.mp hp with hp | ⟨rfl, e1, e2⟩
    · exact h p hp
    · exact ok.trans i m j (h (i, m) e1) (h (m, j) e2)
theorem nsF_mem {fs : List Fc} : (∀ c ∈ abcd, (c, c) ∈ nsF fs) ∧ ∀ f ∈ fs, f ∈ nsF fs := by
  have hi : ∀ c ∈ abcd, (c, c) ∈ nsInit := by decide
  have mono : ∀ (l : List Fc) (ps : List Fc) (q : Fc), q ∈ ps → q ∈ l.foldl addP ps := fun l ps q h => fold_inv (I := fun ps : List Fc => q ∈ ps) l ps h fun ps hp f _ => mem_addP.mpr (.inl hp)
  have all : ∀ (l : List Fc) (ps : List Fc), ∀ f ∈ l, f ∈ l.foldl addP ps := fun l => by
    induction l with
    | nil => intro _ _ h; cases h
    | cons a l ih =>
      intro ps f hf
      rcases List.mem_cons.mp hf with rfl | hf
      · exact mono l _ _ (mem_addP.mpr (.inr rfl))
      · exact ih _ f hf
  exact ⟨fun c hc => mono fs _ _ (hi c hc), all fs _⟩
theorem mid_sub {m : Nat} {ps : List Fc} {q : Fc} (h : q ∈ ps) : q ∈ nsMid ps m := (mem_mid m abcd ps q).mpr (.inl h)
def Closed (ps : List Fc) (m : Nat) : Prop := ∀ i j, (i, m) ∈ ps → (m, j) ∈ ps → (i, j) ∈ ps
theorem mid_closed {ps : List Fc} {m : Nat} (hl : ∀ p ∈ ps, isLt p.1 ∧ isLt p.2) : Closed (nsMid ps m) m ∧ (∀ k, Closed ps k → Closed (nsMid ps m) k) ∧ ∀ p ∈ nsMid ps m, isLt p.1 ∧ isLt p.2 := by
  have h0 : ∀ q, q ∈ nsMid ps m ↔ q ∈ ps ∨ ((q.1, m) ∈ ps ∧ (m, q.2) ∈ ps) := fun q => by
    rw [show nsMid ps m = abcd.foldl (nsRow m) ps from rfl, mem_mid]
    constructor
    · rintro (h | ⟨i, _, j, _, rfl, e⟩)
      · exact .inl h
      · exact .inr e
    · rintro (h | ⟨e1, e2⟩)
      · exact .inl h
      · exact .inr ⟨q.1, abcd_mem.mpr (hl _ e1).1, q.2, abcd_mem.mpr (hl _ e2).2, rfl, e1, e2⟩
  refine ⟨fun i j h1 h2 => ?_, fun k c i j h1 h2 => ?_, fun p hp => ?_⟩
  · have h1 : (i, m) ∈ ps := ((h0 _).mp h1).elim id fun e => e.1
    have h2 : (m, j) ∈ ps := ((h0 _).mp h2).elim id fun e => e.2
    exact (h0 _).mpr (.inr ⟨h1, h2⟩)
  · rcases (h0 _).mp h1 with a | ⟨a1, a2⟩
    · rcases (h0 _).mp h2 with b | ⟨b1, b2⟩
      · exact (h0 _).mpr (.inl (c i j a b))
      · exact (h0 _).mpr (.inr ⟨c i m a b1, b2⟩)
    · rcases (h0 _).mp h2 with b | ⟨b1, b2⟩
      · exact (h0 _).mpr (.inr ⟨a1, c m j a2 b⟩)
      · exact (h0 _).mpr (.inr ⟨a1, b2⟩)
  · rcases (h0 _).mp hp with a | ⟨a1, a2⟩
    · exact hl p a
    · exact ⟨(hl _ a1).1, (hl _ a2).2⟩
theorem never_ok {fs : List Fc} (hf : ∀ f ∈ fs, isLt f.1 ∧ isLt f.2) : Okr fs fun a b => (a, b) ∈ never fs := by
  have hl0 : ∀ p ∈ nsF fs, isLt p.1 ∧ isLt p.2 := by
    refine fold_inv (I := fun ps : List Fc => ∀ p : Fc, p ∈ ps → isLt p.1 ∧ isLt p.2) fs _ ?_ fun ps h f hf' p hp => ?_
    · exact fun p hp => by
        have : ∀ p : Fc, p ∈ nsInit → p.1 ∈ abcd ∧ p.2 ∈ abcd := by decide
        exact ⟨abcd_mem.mp (this p hp).1, abcd_mem.mp (this p hp).2⟩
    · rcases mem_addP.mp hp with hp | rfl
      · exact h p hp
      · exact hf _ hf'
  obtain ⟨r0, f0⟩ := nsF_mem (fs := fs)
  have e : never fs = nsMid (nsMid (nsMid (nsMid (nsF fs) 97) 98) 99) 100 := by
    unfold never abcd
    simp only [List.foldl_cons, List.foldl_nil]
  obtain ⟨a1, b1, l1⟩ := mid_closed (m := 97) hl0
  obtain ⟨a2, b2, l2⟩ := mid_closed (m := 98) l1
  obtain ⟨a3, b3, l3⟩ := mid_closed (m := 99) l2
  obtain ⟨a4, b4, l4⟩ := mid_closed (m := 100) l3
  have up : ∀ q ∈ nsF fs, q ∈ never fs := fun q h => by rw [e]; exact mid_sub (mid_sub (mid_sub (mid_sub h)))
  refine ⟨fun c hc => up _ (r0 c hc), fun f hf => up _ (f0 f hf), fun a b c h1 h2 => ?_⟩
  rw [e] at h1 h2 ⊢
  have hb := (l4 _ h1).2
  have z : b = 97 ∨ b = 98 ∨ b = 99 ∨ b = 100 := by unfold isLt at hb; dsimp only at hb; omega
  rcases z with rfl | rfl | rfl | rfl
  · exact b4 _ (b3 _ (b2 _ a1)) a c h1 h2
  · exact b4 _ (b3 _ a2) a c h1 h2
  · exact b4 _ a3 a c h1 h2
  · exact a4 a c h1 h2
/-! the law's own way -/
def slAdd (found : List Fc) (f : Fc) : List Fc := found ++ found.filterMap fun q => if q.1 = f.2 ∧ (f.1, q.2) ∉ found then some (f.1, q.2) else none
def slInit : List Fc := abcd.map fun c => (c, c)
def slN (fs : List Fc) : Nat → List Fc
  | 0 => slInit
  | n + 1 => fs.foldl slAdd (slN fs n)
def slow (fs : List Fc) : List Fc := slN fs 4
theorem mem_slAdd {found : List Fc} {f q : Fc} : q ∈ slAdd found f ↔ q ∈ found ∨ (q.1 = f.1 ∧ (f.2, q.2) ∈ found) := by
  unfold slAdd
  rw [List.mem_append, List.mem_filterMap]
  constructor
  · rintro (h | ⟨p, hp, h⟩)
    · exact .inl h
    · split at h
      · rename_i z
        cases h
        exact .inr ⟨rfl, by rw [← z.1]; exact hp⟩
      · cases h
  · rintro (h | ⟨e, h⟩)
    · exact .inl h
    · by_cases z : q ∈ found
      · exact .inl z
      · refine .inr ⟨(f.2, q.2), h, ?_⟩
        have e2 : (f.1, q.2) = q := by rw [← e]
        rw [if_pos ⟨rfl, by rw [e2]; exact z⟩, e2]
theorem nodup_slAdd {found : List Fc} {f : Fc} (h : found.Nodup) : (slAdd found f).Nodup := by
  unfold slAdd
  refine List.nodup_append.mpr ⟨h, ?_, fun a ha b hb e => ?_⟩
  · show List.Pairwise (· ≠ ·) _
    rw [List.pairwise_filterMap]
    refine h.imp fun {p q} hpq x hx y hy e => ?_
    split at hx
    · split at hy
      · rename_i z1 z2
        cases hx
        cases hy
        injection e with _ e
        exact hpq (Prod.ext (z1.1.trans z2.1.symm) e)
      · cases hy
    · cases hx
  · obtain ⟨p, hp, h2⟩ := List.mem_filterMap.mp hb
    split at h2
    · rename_i z
      cases h2
      exact z.2 (by rw [← e]; exact ha)
    · cases h2
theorem slN_inv {fs : List Fc} {I : List Fc → Prop} (h0 : I slInit) (h : ∀ ps, I ps → ∀ f ∈ fs, I (slAdd ps f)) : ∀ n, I (slN fs n)
  | 0 => h0
  | n + 1 => fold_inv fs _ (slN_inv h0 h n) h
theorem slow_nodup (fs : List Fc) : (slow fs).Nodup := slN_inv (by decide) (fun ps h f _ => nodup_slAdd h) 4
theorem slow_min {fs : List Fc} {S : Nat → Nat → Prop} (ok : Okr fs S) : ∀ n, ∀ p ∈ slN fs n, S p.1 p.2 := by
  refine slN_inv (I := fun ps : List Fc => ∀ p ∈ ps, S p.1 p.2) (fun p hp => ?_) fun ps h f hf p hp => ?_
  · obtain ⟨c, hc, rfl⟩ := List.mem_map.mp hp
    exact ok.refl c hc
  · rcases mem_slAdd.mp hp with hp | ⟨e, hp⟩
    · exact h p hp
    · rw [e]
      exact ok.trans _ _ _ (ok.fact f hf) (h _ hp)
def Wk (fs : List Fc) : Nat → Nat → Nat → Prop
  | 0, i, j => i = j ∧ isLt i
  | n + 1, i, j => ∃ f ∈ fs, f.1 = i ∧ Wk fs n f.2 j
theorem sl_mono {fs : List Fc} {n : Nat} {q : Fc} (h : q ∈ slN fs n) : q ∈ slN fs (n + 1) := fold_inv (I := fun ps : List Fc => q ∈ ps) fs _ h fun ps hp f _ => mem_slAdd.mpr (.inl hp)
theorem wk_sl {fs : List Fc} : ∀ (n i j : Nat), Wk fs n i j → (i, j) ∈ slN fs n
  | 0, i, j, ⟨e, h⟩ => by
    subst e
    exact List.mem_map.mpr ⟨i, abcd_mem.mpr h, rfl⟩
  | n + 1, i, j, ⟨f, hf, e, h⟩ => by
    have h0 := wk_sl n _ _ h
    have key : ∀ (l : List Fc) (ps : List Fc), f ∈ l → (f.2, j) ∈ ps → (f.1, j) ∈ l.foldl slAdd ps := fun l => by
      induction l with
      | nil => intro _ h; cases h
      | cons a l ih =>
        intro ps hf hp
        rcases List.mem_cons.mp hf with rfl | hf
        · exact fold_inv (I := fun ps : List Fc => (f.1, j) ∈ ps) l _ (mem_slAdd.mpr (.inr ⟨rfl, hp⟩)) fun ps hp f _ => mem_slAdd.mpr (.inl hp)
        · exact ih _ hf (mem_slAdd.mpr (.inl hp))
    rw [← e]
    exact key fs _ hf h0
theorem wk_app {fs : List Fc} : ∀ (n m i j k : Nat), Wk fs n i j → Wk fs m j k → Wk fs (n + m) i k
  | 0, m, i, j, k, ⟨e, _⟩, h => by
    rw [Nat.zero_add, e]
    exact h
  | n + 1, m, i, j, k, ⟨f, hf, e, h⟩, h2 => by
    rw [show n + 1 + m = (n + m) + 1 by omega]
    exact ⟨f, hf, e, wk_app n m _ j k h h2⟩
theorem wk_lt {fs : List Fc} (hf : ∀ f ∈ fs, isLt f.1 ∧ isLt f.2) : ∀ (n i j : Nat), Wk fs n i j → isLt i ∧ isLt j
  | 0, i, j, ⟨e, h⟩ => ⟨h, e ▸ h⟩
  | n + 1, i, j, ⟨f, h1, e, h⟩ => ⟨e ▸ (hf f h1).1, (wk_lt hf n _ _ h).2⟩
theorem wk_cut {fs : List Fc} (hf : ∀ f ∈ fs, isLt f.1 ∧ isLt f.2) : ∀ (a b i j : Nat), Wk fs (a + b) i j → ∃ v, Wk fs a i v ∧ Wk fs b v j
  | 0, b, i, j, h => by
    rw [Nat.zero_add] at h
    exact ⟨i, ⟨rfl, (wk_lt hf _ _ _ h).1⟩, h⟩
  | a + 1, b, i, j, h => by
    rw [show a + 1 + b = (a + b) + 1 by omega] at h
    obtain ⟨f, h0, e, h⟩ := h
    obtain ⟨v, h1, h2⟩ := wk_cut hf a b _ _ h
    exact ⟨v, ⟨f, h0, e, h1⟩, h2⟩
theorem pig5 : ∀ a b c d e : Fin 4, a = b ∨ a = c ∨ a = d ∨ a = e ∨ b = c ∨ b = d ∨ b = e ∨ c = d ∨ c = e ∨ d = e := by decide
theorem pigN {a b c d e : Nat} (ha : isLt a) (hb : isLt b) (hc : isLt c) (hd : isLt d) (he : isLt e) : a = b ∨ a = c ∨ a = d ∨ a = e ∨ b = c ∨ b = d ∨ b = e ∨ c = d ∨ c = e ∨ d = e := by
  unfold isLt at *
  have z := pig5 ⟨a - 97, by omega⟩ ⟨b - 97, by omega⟩ ⟨c - 97, by omega⟩ ⟨d - 97, by omega⟩ ⟨e - 97, by omega⟩
  simp only [Fin.mk.injEq] at z
  omega
theorem wk_short {fs : List Fc} (hf : ∀ f ∈ fs, isLt f.1 ∧ isLt f.2) : ∀ (k n i j : Nat), n ≤ k → Wk fs n i j → ∃ m, m ≤ 3 ∧ Wk fs m i j
  | 0, n, i, j, hk, h => ⟨n, by omega, h⟩
  | k + 1, n, i, j, hk, h => by
    by_cases z : n ≤ 3
    · exact ⟨n, z, h⟩
    · have cut := fun a (ha : a ≤ n) => wk_cut hf a (n - a) i j (by rw [show a + (n - a) = n by omega]; exact h)
      obtain ⟨v0, p0, s0⟩ := cut 0 (by omega)
      obtain ⟨v1, p1, s1⟩ := cut 1 (by omega)
      obtain ⟨v2, p2, s2⟩ := cut 2 (by omega)
      obtain ⟨v3, p3, s3⟩ := cut 3 (by omega)
      obtain ⟨v4, p4, s4⟩ := cut 4 (by omega)
      have go : ∀ {a b v u : Nat}, Wk fs a i v → Wk fs (n - b) u j → v = u → a < b → b ≤ n → ∃ m, m ≤ 3 ∧ Wk fs m i j := fun {a b v u} h1 h2 e hab hb =>
        wk_short hf k (a + (n - b)) i j (by omega) (wk_app a (n - b) i v j h1 (by rw [e]; exact h2))
      have L := fun {a v : Nat} (h : Wk fs a i v) => (wk_lt hf _ _ _ h).2
      rcases pigN (L p0) (L p1) (L p2) (L p3) (L p4) with e | e | e | e | e | e | e | e | e | e
      · exact go p0 s1 e (by omega) (by omega)
      · exact go p0 s2 e (by omega) (by omega)
      · exact go p0 s3 e (by omega) (by omega)
      · exact go p0 s4 e (by omega) (by omega)
      · exact go p1 s2 e (by omega) (by omega)
      · exact go p1 s3 e (by omega) (by omega)
      · exact go p1 s4 e (by omega) (by omega)
      · exact go p2 s3 e (by omega) (by omega)
      · exact go p2 s4 e (by omega) (by omega)
      · exact go p3 s4 e (by omega) (by omega)
theorem slow_wk {fs : List Fc} (hf : ∀ f ∈ fs, isLt f.1 ∧ isLt f.2) {i j : Nat} : (i, j) ∈ slow fs ↔ ∃ n, Wk fs n i j := by
  constructor
  · intro h
    have ok : Okr fs fun a b => ∃ n, Wk fs n a b := ⟨fun c hc => ⟨0, rfl, abcd_mem.mp hc⟩, fun f h => ⟨1, f, h, rfl, rfl, (hf f h).2⟩, fun a b c ⟨n, h1⟩ ⟨m, h2⟩ => ⟨n + m, wk_app n m a b c h1 h2⟩⟩
    exact slow_min ok 4 _ h
  · rintro ⟨n, h⟩
    obtain ⟨m, hm, h⟩ := wk_short hf n n i j (Nat.le_refl _) h
    have h := wk_sl m i j h
    have z : m = 0 ∨ m = 1 ∨ m = 2 ∨ m = 3 := by omega
    rcases z with rfl | rfl | rfl | rfl
    · exact sl_mono (sl_mono (sl_mono (sl_mono h)))
    · exact sl_mono (sl_mono (sl_mono h))
    · exact sl_mono (sl_mono h)
    · exact sl_mono h
theorem slow_ok {fs : List Fc} (hf : ∀ f ∈ fs, isLt f.1 ∧ isLt f.2) : Okr fs fun a b => (a, b) ∈ slow fs :=
  ⟨fun c hc => (slow_wk hf).mpr ⟨0, rfl, abcd_mem.mp hc⟩, fun f h => (slow_wk hf).mpr ⟨1, f, h, rfl, rfl, (hf f h).2⟩, fun a b c h1 h2 => by
    obtain ⟨n, h1⟩ := (slow_wk hf).mp h1
    obtain ⟨m, h2⟩ := (slow_wk hf).mp h2
    exact (slow_wk hf).mpr ⟨n + m, wk_app n m a b c h1 h2⟩⟩
theorem never_slow {fs : List Fc} (hf : ∀ f ∈ fs, isLt f.1 ∧ isLt f.2) (p : Fc) : p ∈ never fs ↔ p ∈ slow fs :=
  ⟨fun h => never_min (slow_ok hf) p h, fun h => slow_min (never_ok hf) 4 p h⟩
/-- what follows from what follows -/
theorem never_again {fs gs : List Fc} (hf : ∀ f ∈ fs, isLt f.1 ∧ isLt f.2) (hg : ∀ p, p ∈ gs ↔ p ∈ never fs ∧ p.1 ≠ p.2) (p : Fc) : p ∈ never gs ↔ p ∈ never fs := by
  have hgl : ∀ f ∈ gs, isLt f.1 ∧ isLt f.2 := fun f h => never_lt hf f ((hg f).mp h).1
  have of_ := never_ok hf
  have og := never_ok hgl
  refine ⟨fun h => never_min (S := fun a b => (a, b) ∈ never fs) ⟨of_.refl, fun f h => ((hg f).mp h).1, of_.trans⟩ p h, fun h => never_min (S := fun a b => (a, b) ∈ never gs) ⟨og.refl, fun f h => ?_, og.trans⟩ p h⟩
  by_cases z : f.1 = f.2
  · rw [← z]
    exact og.refl _ (abcd_mem.mpr (hf f h).1)
  · exact og.fact f ((hg f).mpr ⟨of_.fact f h, z⟩)
/-! texts in order -/
def keyF (p : Fc) : Nat := p.1 * 1000 + p.2
def txF (p : Fc) : Str := mk [p.1, p.2]
theorem lt_tx {p x : Fc} (hp : isLt p.1 ∧ isLt p.2) (hx : isLt x.1 ∧ isLt x.2) (h : ltCps (txF x).cps.toList (txF p).cps.toList = false) : keyF p ≤ keyF x := by
  have h : (decide (x.1 < p.1) || (x.1 == p.1 && (decide (x.2 < p.2) || (x.2 == p.2 && false)))) = false := by simpa [txF, mk, ltCps] using h
  rw [Bool.or_eq_false_iff, decide_eq_false_iff_not] at h
  obtain ⟨h1, h2⟩ := h
  unfold keyF
  unfold isLt at hp hx
  by_cases z : x.1 = p.1
  · have h3 : ¬ x.2 < p.2 := fun y => by
      rw [beq_iff_eq.mpr z, Bool.true_and, decide_eq_true y, Bool.true_or] at h2
      cases h2
    omega
  · omega
theorem rise_key : ∀ (p : Fc) (l : List Fc), (isLt p.1 ∧ isLt p.2) → (∀ q ∈ l, isLt q.1 ∧ isLt q.2) → risingS (txF p) (l.map txF) = true → (p :: l).Pairwise fun a b => keyF a ≤ keyF b
  | p, [], _, _, _ => List.pairwise_singleton ..
  | p, x :: l, hp, hl, h => by
    have h : (!ltCps (txF x).cps.toList (txF p).cps.toList && risingS (txF x) (l.map txF)) = true := h
    rw [Bool.and_eq_true, Bool.not_eq_true'] at h
    have hx := hl x (List.mem_cons_self ..)
    have h1 := lt_tx hp hx h.1
    have h2 := rise_key x l hx (fun q hq => hl q (List.mem_cons_of_mem _ hq)) h.2
    refine List.pairwise_cons.mpr ⟨fun q hq => ?_, h2⟩
    rcases List.mem_cons.mp hq with rfl | hq
    · exact h1
    · exact Nat.le_trans h1 ((List.pairwise_cons.mp h2).1 q hq)
theorem sort_key {l : List Fc} (hl : ∀ q ∈ l, isLt q.1 ∧ isLt q.2) (h : sortedS (l.map txF) = true) : l.Pairwise fun a b => keyF a ≤ keyF b := by
  cases l with
  | nil => exact .nil
  | cons p l => exact rise_key p l (hl p (List.mem_cons_self ..)) (fun q hq => hl q (List.mem_cons_of_mem _ hq)) h
theorem sort_one : ∀ (xs ys : List Fc), (∀ q ∈ xs, isLt q.1 ∧ isLt q.2) → xs.Pairwise (fun a b => keyF a ≤ keyF b) → ys.Pairwise (fun a b => keyF a ≤ keyF b) → xs.Nodup → ys.Nodup → (∀ p, p ∈ xs ↔ p ∈ ys) → xs = ys
  | [], [], _, _, _, _, _, _ => rfl
  | [], y :: ys, _, _, _, _, _, h => nomatch (h y).mpr (List.mem_cons_self ..)
  | x :: xs, [], _, _, _, _, _, h => nomatch (h x).mp (List.mem_cons_self ..)
  | x :: xs, y :: ys, hl, h1, h2, n1, n2, h => by
    obtain ⟨a1, a2⟩ := List.pairwise_cons.mp h1
    obtain ⟨b1, b2⟩ := List.pairwise_cons.mp h2
    obtain ⟨c1, c2⟩ := List.nodup_cons.mp n1
    obtain ⟨d1, d2⟩ := List.nodup_cons.mp n2
    have e : x = y := by
      have hx := (h x).mp (List.mem_cons_self ..)
      have hy := (h y).mpr (List.mem_cons_self ..)
      rcases List.mem_cons.mp hx with e | hx
      · exact e
      · rcases List.mem_cons.mp hy with e | hy
        · exact e.symm
        · have k1 := a1 y hy
          have k2 := b1 x hx
          have l1 := hl x (List.mem_cons_self ..)
          have l2 := hl y (List.mem_cons_of_mem _ hy)
          unfold keyF at k1 k2
          unfold isLt at l1 l2
          exact Prod.ext (by omega) (by omega)
    subst e
    rw [sort_one xs ys (fun q hq => hl q (List.mem_cons_of_mem _ hq)) a2 b2 c2 d2 fun p => ⟨fun hp => by
      rcases List.mem_cons.mp ((h p).mp (List.mem_cons_of_mem _ hp)) with rfl | z
      · exact absurd hp c1
      · exact z, fun hp => by
      rcases List.mem_cons.mp ((h p).mpr (List.mem_cons_of_mem _ hp)) with rfl | z
      · exact absurd hp d1
      · exact z⟩]
/-! links that are quicker -/
def quickB (rx ry : Rides) : Bool := ry.all fun r => !decide (plM (endsF ry (.num r.1)).2 < plM (endsF rx (.num r.1)).2)
theorem end_pl {rs : Rides} {t : Int} : (∃ e, (endsF rs (.num t)).2 = .num e ∧ plM (endsF rs (.num t)).2 = e) ∨ ((endsF rs (.num t)).2 = .last ∧ plM (endsF rs (.num t)).2 = 10 ^ 50) := by
  rcases late_is (rs := rs) (t := t) with ⟨e, h⟩ | h
  · exact .inl ⟨e, h, by rw [h] <;> rfl⟩
  · exact .inr ⟨h, by rw [h] <;> rfl⟩
theorem leB_quick {rx ry na nb : Rides} (hx : IsNeeded rx na) (hy : IsNeeded ry nb) (hb : ∀ r ∈ rx, r.2.natAbs ≤ 10 ^ 40) (hc : ∀ r ∈ ry, r.2.natAbs ≤ 10 ^ 40) : leB na nb = quickB rx ry := by
  have e1 : leB na nb = nb.all fun r => !(Mom.num r.2).lt (endsF rx (.num r.1)).2 := by
    unfold leB
    congr 1
    funext r
    rw [ended_is hx]
  rw [e1]
  unfold quickB
  rw [Bool.eq_iff_iff, List.all_eq_true, List.all_eq_true]
  constructor
  · intro h q hq
    rw [Bool.not_eq_true', decide_eq_false_iff_not]
    rcases late_is (rs := ry) (t := q.1) with ⟨e, he⟩ | he
    · obtain ⟨⟨r, hr, h1, h2⟩, _⟩ := end_num.mp he
      obtain ⟨n, hn, h3, h4⟩ := hy.cov r hr
      have hz := h n hn
      rcases late_is (rs := rx) (t := n.1) with ⟨f, hf⟩ | hf
      · rw [hf] at hz
        have hz : (!decide (n.2 < f)) = true := hz
        rw [Bool.not_eq_true', decide_eq_false_iff_not] at hz
        obtain ⟨⟨u, hu, h5, h6⟩, _⟩ := end_num.mp hf
        rcases late_is (rs := rx) (t := q.1) with ⟨g, hg⟩ | hg
        · have := (end_num.mp hg).2 u hu (by omega)
          rw [he, hg]
          show ¬ e < g
          omega
        · exact absurd (end_last.mp hg u hu) (by omega)
      · rw [hf] at hz
        cases hz
    · exact absurd (end_last.mp he q hq) (by omega)
  · intro h n hn
    have hq := h n (hy.sub n hn)
    rw [Bool.not_eq_true', decide_eq_false_iff_not] at hq
    have hnr := hy.sub n hn
    rcases late_is (rs := ry) (t := n.1) with ⟨e, he⟩ | he
    · obtain ⟨⟨r, hr, _, h2⟩, h3⟩ := end_num.mp he
      have h4 := h3 n hnr (Int.le_refl _)
      have hb2 := hc r hr
      rw [he] at hq
      rcases late_is (rs := rx) (t := n.1) with ⟨f, hf⟩ | hf
      · rw [hf] at hq ⊢
        have hq : ¬ e < f := hq
        show (!decide (n.2 < f)) = true
        rw [decide_eq_false (by omega)] <;> rfl
      · rw [hf] at hq
        have hq : ¬ e < 10 ^ 50 := hq
        exact absurd (show e < 10 ^ 50 by omega) hq
    · exact absurd (end_last.mp he n hnr) (by omega)
theorem leB_refl {rs ns : Rides} (h : IsNeeded rs ns) (hb : ∀ r ∈ rs, r.2.natAbs ≤ 10 ^ 40) : leB ns ns = true := by
  rw [leB_quick h h hb hb]
  unfold quickB
  rw [List.all_eq_true]
  exact fun r _ => by rw [decide_eq_false (Int.lt_irrefl _)] <;> rfl
/-- whether a timetable keeps pairs -/
def keptB (l : List Nat) (q : Nat → Nat → Bool) (ps : List Fc) : Bool := ps.all fun p => !(decide (p.1 ∈ l) && decide (p.2 ∈ l)) || q p.1 p.2
theorem kept_same {l : List Nat} {q q' : Nat → Nat → Bool} {ps ps' : List Fc} (hq : ∀ a ∈ l, ∀ b ∈ l, q a b = q' a b) (h : ∀ p, p ∈ ps ↔ p ∈ ps') : keptB l q ps = keptB l q' ps' := by
  unfold keptB
  have hf : ∀ p : Fc, (!(decide (p.1 ∈ l) && decide (p.2 ∈ l)) || q p.1 p.2) = (!(decide (p.1 ∈ l) && decide (p.2 ∈ l)) || q' p.1 p.2) := fun p => by
    by_cases z1 : p.1 ∈ l
    · by_cases z2 : p.2 ∈ l
      · rw [hq _ z1 _ z2]
      · rw [decide_eq_false z2, Bool.and_false] <;> rfl
    · rw [decide_eq_false z1, Bool.false_and] <;> rfl
  rw [Bool.eq_iff_iff, List.all_eq_true, List.all_eq_true]
  exact ⟨fun k p hp => by rw [← hf]; exact k p ((h p).mpr hp), fun k p hp => by rw [hf]; exact k p ((h p).mp hp)⟩
theorem never_nil : ∀ p ∈ never [], p.1 = p.2 := by decide
end Nw

namespace Nw
open PySem PySem.Spec PyProof.Rows L2
/-! ### never_slower, chain, keeps -/
def keyT (p : Fc) : List L2.Key := [.inr (sg p.1), .inr (sg p.2)]
def kvT (p : Fc) : List L2.Key × V := (keyT p, .bl true)
theorem keyT_inj {p q : Fc} (h : keyT p = keyT q) : p = q := by
  unfold keyT at h
  injection h with h1 h2
  injection h2 with h2 _
  injection h1 with h1
  injection h2 with h2
  exact Prod.ext (sg_inj h1) (sg_inj h2)
theorem any_key (ps : List Fc) (p : Fc) : ((ps.map kvT).any fun kv => decide (kv.1 = keyT p)) = decide (p ∈ ps) := by
  rw [Bool.eq_iff_iff, List.any_eq_true, decide_eq_true_iff]
  constructor
  · rintro ⟨kv, h1, h2⟩
    obtain ⟨q, hq, rfl⟩ := List.mem_map.mp h1
    rw [← keyT_inj (of_decide_eq_true h2)]
    exact hq
  · exact fun h => ⟨kvT p, List.mem_map_of_mem h, decide_eq_true rfl⟩
theorem putT (ps : List Fc) (p : Fc) : putK (ps.map kvT) (keyT p) (.bl true) = (addP ps p).map kvT := by
  unfold putK addP
  rw [any_key]
  by_cases z : p ∈ ps
  · rw [if_pos (decide_eq_true z), if_pos z]
    refine (List.map_congr_left fun kv hkv => ?_).trans (List.map_id' _)
    obtain ⟨q, hq, rfl⟩ := List.mem_map.mp hkv
    split
    · rfl
    · rfl
  · rw [if_neg (by rw [decide_eq_false z]; exact Bool.false_ne_true), if_neg z, List.map_append]
    rfl
theorem valT (ps : List Fc) (p : Fc) : (valV (ps.map kvT) (keyT p)).isSome = decide (p ∈ ps) := by
  unfold valV
  rw [Option.isSome_map, ← any_key, Bool.eq_iff_iff, List.find?_isSome, List.any_eq_true]
theorem addP_len (ps : List Fc) (p : Fc) : (addP ps p).length ≤ ps.length + 1 := by
  unfold addP
  split
  · omega
  · rw [List.length_append]
    exact Nat.le_refl _
theorem fold_take {α β : Type} {f : β → α → β} {l : List α} {b : β} {i : Nat} {c : α} (h : l[i]? = some c) : (l.take (i + 1)).foldl f b = f ((l.take i).foldl f b) c := by
  rw [List.take_add_one, h]
  show (l.take i ++ [c]).foldl f b = _
  rw [List.foldl_append] <;> rfl
theorem abcd_str : ("abcd" : Str).cps.toList = abcd := by decide +kernel
theorem abcd_at {i c : Nat} (h : ("abcd" : Str).cps[i]? = some c) : abcd[i]? = some c := by
  rw [← abcd_str]
  simpa using h
def sp_never_slower (K : PySem.W.Frag) : Sp := fun vs H Q _ => ∃ (I : Hp) (a : Addr) (t : Bool) (ws : List V) (fs : List Fc), vs = [.ref a] ∧ I a = some (ho t ws) ∧ Paired (isFc I) ws fs ∧ fs.length ≤ 100 ∧ Same I H ∧
  ∀ nv d I' H', nv = never fs → Grow No I H I' H' → Own No H d (.dT (nv.map kvT)) I' H' → Q (.ref d) H'
theorem nodup_len : ∀ (ps L : List Fc), ps.Nodup → (∀ p ∈ ps, p ∈ L) → ps.length ≤ L.length
  | [], _, _, _ => Nat.zero_le _
  | p :: ps, L, n, h => by
    obtain ⟨n1, n2⟩ := List.nodup_cons.mp n
    have hp := h p (List.mem_cons_self ..)
    have h1 := nodup_len ps (L.erase p) n2 fun q hq => (List.mem_erase_of_ne (fun (e : q = p) => n1 (by rw [← e]; exact hq))).mpr (h q (List.mem_cons_of_mem _ hq))
    rw [List.length_erase_of_mem hp] at h1
    have := List.length_pos_of_mem hp
    rw [List.length_cons]
    omega
def all16 : List Fc := abcd.flatMap fun a => abcd.map fun b => (a, b)
theorem len16 {ps : List Fc} (n : ps.Nodup) (h : ∀ p ∈ ps, isLt p.1 ∧ isLt p.2) : ps.length ≤ 16 :=
  nodup_len ps all16 n fun p hp => List.mem_flatMap.mpr ⟨p.1, abcd_mem.mpr (h p hp).1, List.mem_map.mpr ⟨p.2, abcd_mem.mpr (h p hp).2, rfl⟩⟩
theorem never_len {fs : List Fc} (hf : ∀ f ∈ fs, isLt f.1 ∧ isLt f.2) : (never fs).length ≤ 16 := len16 (never_nodup fs) (never_lt hf)
def isChain (fs gs : List Fc) : Prop := gs.Nodup ∧ (∀ p, p ∈ gs ↔ p ∈ never fs ∧ p.1 ≠ p.2) ∧ gs.Pairwise fun a b => keyF a ≤ keyF b
def okFs (fs : List Fc) : Prop := (∀ p ∈ fs, okFc p) ∧ fs.length ≤ 12
theorem okFs.lt {fs : List Fc} (h : okFs fs) : ∀ f ∈ fs, isLt f.1 ∧ isLt f.2 := fun f hf => ⟨(h.1 f hf).1, (h.1 f hf).2.1⟩
def isSeq (I : Hp) (v : V) (fs : List Fc) : Prop := ∃ a t ws, v = .ref a ∧ I a = some (ho t ws) ∧ Paired (isFc I) ws fs
theorem isSeq.up {I I' : Hp} {v : V} {fs : List Fc} (h : isSeq I v fs) (e : Same I I') : isSeq I' v fs := let ⟨a, t, ws, h1, h2, h3⟩ := h; ⟨a, t, ws, h1, e _ _ h2, Paired.mono' (fun _ _ z => z.up e) h3⟩
def sp_chain (K : PySem.W.Frag) : Sp := fun vs H Q _ => ∃ (I : Hp) (v : V) (fs : List Fc), vs = [v] ∧ isSeq I v fs ∧ okFs fs ∧ Same I H ∧
  ∀ q vs' gs I' H', Grow No I H I' H' → Own No H q (.lst vs') I' H' → Paired (isFc I') vs' gs → isChain fs gs → Q (.ref q) H'
def lkT (tb : List (Nat × Rides)) (a b : Nat) : Bool := leB ((lookT tb a).getD []) ((lookT tb b).getD [])
def sp_keeps (K : PySem.W.Frag) : Sp := fun vs H Q _ => ∃ (I : Hp) (v u : V) (tb : List (Nat × Rides)) (fs : List Fc), vs = [v, u] ∧ isTable K I v tb ∧ (tb.map (·.1)).Nodup ∧ tb.length ≤ 4 ∧ (∀ p ∈ tb, p.2.length ≤ 60) ∧ isSeq I u fs ∧ okFs fs ∧ Same I H ∧
  ∀ I' H', Grow No I H I' H' → Q (.bl (keptB (tb.map (·.1)) (lkT tb) (never fs))) H'
def sp_Timetable_letters (K : PySem.W.Frag) : Sp := fun vs H Q _ => ∃ (a dx d : Addr) (kvs : List (Nat × V)), vs = [.ref a] ∧ H a = some (.ins (He.ga K "Timetable") dx [("own_links", .ref d)]) ∧ H d = some (.dK (kvs.map kvS)) ∧ kvs.length ≤ 100 ∧ Q (.str (mk (kvs.map (·.1)))) H
theorem links_at {K : PySem.W.Frag} {I : Hp} : ∀ {kvs : List (Nat × V)} {tb : List (Nat × Rides)} {j : Nat} {p : Nat × Rides}, linksP K I kvs tb → tb[j]? = some p → ∃ v, kvs[j]? = some (p.1, v) ∧ isLink K I v p.2
  | _, _, 0, _, .cons h t, e => by
    cases e
    exact ⟨_, by rw [← h.1]; rfl, h.2⟩
  | _, _, j + 1, _, .cons h t, e => links_at (j := j) t e
theorem tb_link {K : PySem.W.Frag} {I : Hp} {kvs : List (Nat × V)} {tb : List (Nat × Rides)} (hlk : linksP K I kvs tb) (hnd : (tb.map (·.1)).Nodup) {c : Nat} (hc : c ∈ tb.map (·.1)) : ∃ v ns, lookT kvs c = some v ∧ lookT tb c = some ns ∧ isLink K I v ns ∧ (c, ns) ∈ tb := by
  obtain ⟨pq, hpq, rfl⟩ := List.mem_map.mp hc
  obtain ⟨j, hj⟩ := List.getElem?_of_mem hpq
  obtain ⟨v, hv, hl⟩ := links_at hlk hj
  exact ⟨v, pq.2, look_at (by rw [linksP.keys hlk]; exact hnd) hv, look_at hnd hj, hl, hpq⟩
theorem kept_false {l : List Nat} {q : Nat → Nat → Bool} {ps : List Fc} {p : Fc} (h : p ∈ ps) (h1 : p.1 ∈ l) (h2 : p.2 ∈ l) (h3 : q p.1 p.2 = false) : keptB l q ps = false := by
  unfold keptB
  rw [List.all_eq_false]
  refine ⟨p, h, ?_⟩
  rw [decide_eq_true h1, decide_eq_true h2, h3]
  exact Bool.false_ne_true
theorem kept_step {l : List Nat} {q : Nat → Nat → Bool} {ps : List Fc} {i : Nat} {p : Fc} (hp : ps[i]? = some p) (h : keptB l q (ps.take i) = true) (h2 : p.1 ∈ l → p.2 ∈ l → q p.1 p.2 = true) : keptB l q (ps.take (i + 1)) = true := by
  unfold keptB at h ⊢
  rw [List.take_add_one, hp]
  show (ps.take i ++ [p]).all _ = true
  rw [List.all_append, h, Bool.true_and, List.all_cons, List.all_nil, Bool.and_true]
  by_cases z1 : p.1 ∈ l
  · by_cases z2 : p.2 ∈ l
    · rw [h2 z1 z2, Bool.or_true]
    · rw [decide_eq_false z2, Bool.and_false] <;> rfl
  · rw [decide_eq_false z1, Bool.false_and] <;> rfl
theorem fm_filterF (ps : List Fc) : (ps.filterMap fun p => if p.1 ≠ p.2 then some (txF p) else none) = (ps.filter fun p => decide (p.1 ≠ p.2)).map txF := by
  induction ps with
  | nil => rfl
  | cons p ps ih =>
    by_cases z : p.1 = p.2
    · rw [List.filterMap_cons_none (by rw [if_neg (fun y => y z)]), List.filter_cons_of_neg (by simpa using z), ih]
    · rw [List.filterMap_cons_some (by rw [if_pos z]), List.filter_cons_of_pos (by simpa using z), ih, List.map_cons]
section
variable {P : Program} {w : World} {K : PySem.W.Frag} {mg : Str → Option Value} {base : Heap}
theorem ok_never_slower (T : Txt K mg) (F : FnAt K "never_slower" "never_slower" s_never_slower (He.ga K "never_slower"))  : Ok P w K mg base CX0 1 (He.ga K "never_slower") ["facts"] (sp_never_slower K) := by
  refine ok_of F sc_never_slower (fun _ _ _ _ _ _ us hl => match us, hl with | [_], _ => rfl) (fun vs H Q E h => ?_) (fun cdv A outer s H vs Q E hr h => ?_)
  · obtain ⟨_, _, _, _, _, rfl, _⟩ := h
    rfl
  · obtain ⟨I, a, t, ws, fs, rfl, ha, hp, hl, sb, k⟩ := h
    refine ⟨_, (pss_cons (ps_setDcT (i := 1) (own := [("letter", 6)]) (g := (gName 6)) rfl rfl (sw_trueD rfl rfl rfl (by decide +kernel)) rfl sc_never_slower.nd (Nat.lt_of_succ_lt (hu_of hr)) (pi_str (pe_gstr T.c_LINKS)) (blkOk_by (own := [("letter", 6)]) (N := n_never_slower) (sc := defScope s_never_slower) (by decide +kernel)) (fun _ _ _ _ _ => (pg_name (i := 6) sc_never_slower.nd rfl (Or.inl rfl))) (fun _ _ _ _ _ => pts_nil) (fun _ _ _ _ _ => (pe_tup (pa_cons (pv 6) (pa_cons (pv 6) pa_nil)))) (fun _ _ _ _ _ => pe_bl))
      (pss_cons (ps_for PassesOwn.never rfl (pi_seq (pv 0)) (pg_name (i := 2) sc_never_slower.nd rfl (Or.inl rfl)) (pss_one (ps_dput (hu_of hr) (pv 1) (pv 2) pe_bl rfl)))
      (pss_cons (ps_for PassesOwn.never rfl (pi_str (pe_gstr T.c_LINKS)) (pg_name (i := 3) sc_never_slower.nd rfl (Or.inl rfl)) (pss_one (ps_for PassesOwn.never rfl (pi_str (pe_gstr T.c_LINKS)) (pg_name (i := 4) sc_never_slower.nd rfl (Or.inl rfl)) (pss_one (ps_for PassesOwn.never rfl (pi_str (pe_gstr T.c_LINKS)) (pg_name (i := 5) sc_never_slower.nd rfl (Or.inl rfl)) (pss_one (ps_if (PW.pt (pw_and (pt_cmp (pc_din (hu_of hr) (pe_tup (pa_cons (pv 4) (pa_cons (pv 3) pa_nil))) (pv 1))) (pw_and1 (pt_cmp (pc_din (hu_of hr) (pe_tup (pa_cons (pv 3) (pa_cons (pv 5) pa_nil))) (pv 1)))))) (pss_one (ps_dput (hu_of hr) (pv 1) (pe_tup (pa_cons (pv 4) (pa_cons (pv 5) pa_nil))) pe_bl rfl)) pss_nil)))))))
      (pss_one (ps_ret (pv 1)))))), ?_⟩
    have hlen := Nw.Paired.len hp
    refine ⟨_, rfl, fun D hD => ?_⟩
    refine dcT_it (walk_str (z := "abcd")) (fun i H' => ∃ I', Grow No I H I' H' ∧ Own No H D (.dT (((abcd.take i).foldl (fun ps c => addP ps (c, c)) []).map kvT)) I' H' ∧ ((abcd.take i).foldl (fun ps c => addP ps (c, c)) ([] : List Fc)).length ≤ i)
      ⟨I, Grow.mine sb hD, Own.new sb (.inl (Same.refl H)) (fun _ z => z.elim) hD, Nat.le_refl _⟩ (fun _ _ _ _ => trivial) ?_ ?_
    · rintro i y H1 H2 hi ⟨I1, g1, o1, l1⟩ ⟨rfl, c, hc, rfl⟩
      have hc' := abcd_at hc
      rw [fold_take hc']
      generalize ((abcd.take i).foldl (fun ps c => addP ps (c, c)) ([] : List Fc)) = ps at o1 l1
      refine ⟨rfl, lc_yes ⟨_, rfl, _, rfl, (by show 2 ≤ sizeLine; decide), fun b hb => ?_⟩⟩
      have gb : Grow No I1 H2 I1 (upd H2 b (.tup [.str (sg c), .str (sg c)])) := Grow.mine g1.sub hb
      have o2 := o1.grow gb
      have hi4 : i < 4 := hi
      refine ⟨_, DPut.t (k := keyT (c, c)) o2.at_ upd_same (by rw [List.length_map, sizeLine_eq]; omega), ?_⟩
      rw [putT]
      have := addP_len ps (c, c)
      exact ⟨I1, (g1.trans gb).put o2, o2.put, by omega⟩
    rintro H1 ⟨I1, g1, o1, l1⟩
    have e0 : (abcd.take ("abcd" : Str).cps.size).foldl (fun ps c => addP ps (c, c)) ([] : List Fc) = nsInit := rfl
    rw [e0] at o1 l1
    have hsz : ("abcd" : Str).cps.size = 4 := by decide +kernel
    rw [hsz] at l1
    -- the facts
    refine ⟨_, rfl, a, t, rfl, ⟨_, SqB.of (g1.sub _ _ (g1.view _ _ ha))⟩, ?_⟩
    refine for_it walk_seq (fun i σ H' => ∃ (I' : Hp) (v2 v3 v4 v5 v6 : Option V), σ = [some (.ref a), some (.ref D), v2, v3, v4, v5, v6] ∧ Grow No I H I' H' ∧ Own No H D (.dT (((fs.take i).foldl addP nsInit).map kvT)) I' H' ∧ ((fs.take i).foldl addP nsInit).length ≤ 4 + i)
      ⟨I1, none, none, none, none, none, rfl, g1, o1, l1⟩ (fun i σ H' _ ⟨I', _, _, _, _, _, _, g, _, _⟩ => SqB.of (g.sub _ _ (g.view _ _ ha))) ?_ ?_
    · rintro i y σ H2 H3 hi ⟨I2, v2, v3, v4, v5, v6, rfl, g2, o2, l2⟩ ⟨rfl, hy⟩
      obtain ⟨f, hf, b, rfl, hb⟩ := Nw.Paired.at' hp hy
      rw [fold_take hf]
      generalize (fs.take i).foldl addP nsInit = ps at o2 l2
      have hb2 := g2.sub _ _ (g2.view _ _ hb)
      refine ⟨_, rfl, _, rfl, D, _, rfl, DPut.t (k := keyT f) o2.at_ hb2 (by rw [List.length_map, sizeLine_eq]; omega), ?_⟩
      rw [putT]
      have := addP_len ps f
      exact ⟨I2, _, _, _, _, _, rfl, g2.put o2, o2.put, by omega⟩
    rintro σ H2 ⟨I2, v2, v3, v4, v5, v6, rfl, g2, o2, l2⟩
    rw [show fs.take ws.length = fs from List.take_of_length_le (by omega)] at o2 l2
    have e1 : fs.foldl addP nsInit = nsF fs := rfl
    rw [e1] at o2 l2
    -- the middles
    refine ⟨_, rfl, ?_⟩
    refine for_it (walk_str (z := "abcd")) (fun m σ H' => ∃ (I' : Hp) (v2 v3 v4 v5 v6 : Option V), σ = [some (.ref a), some (.ref D), v2, v3, v4, v5, v6] ∧ Grow No I H I' H' ∧ Own No H D (.dT (((abcd.take m).foldl nsMid (nsF fs)).map kvT)) I' H' ∧ ((abcd.take m).foldl nsMid (nsF fs)).length ≤ 104 + 16 * m)
      ⟨I2, _, _, _, _, _, rfl, g2, o2, by show (nsF fs).length ≤ _; omega⟩ (fun _ _ _ _ _ => trivial) ?_ ?_
    · rintro m y σ H3 H3' hm ⟨I3, v2, v3, v4, v5, v6, rfl, g3, o3, l3⟩ ⟨rfl, cm, hcm, rfl⟩
      rw [fold_take (abcd_at hcm)]
      have hm4 : m < 4 := hm
      generalize (abcd.take m).foldl nsMid (nsF fs) = ps at o3 l3
      refine ⟨_, rfl, ?_⟩
      refine for_it (walk_str (z := "abcd")) (fun i σ H' => ∃ (I' : Hp) (v4 v5 v6 : Option V), σ = [some (.ref a), some (.ref D), v2, some (.str (sg cm)), v4, v5, v6] ∧ Grow No I H I' H' ∧ Own No H D (.dT (((abcd.take i).foldl (nsRow cm) ps).map kvT)) I' H' ∧ ((abcd.take i).foldl (nsRow cm) ps).length ≤ 104 + 16 * m + 4 * i)
        ⟨I3, _, _, _, rfl, g3, o3, l3⟩ (fun _ _ _ _ _ => trivial) ?_ ?_
      · rintro i y σ H4 H4' hi ⟨I4, v4, v5, v6, rfl, g4, o4, l4⟩ ⟨rfl, ci, hci, rfl⟩
        rw [fold_take (abcd_at hci)]
        have hi4 : i < 4 := hi
        generalize (abcd.take i).foldl (nsRow cm) ps = ps4 at o4 l4
        refine ⟨_, rfl, ?_⟩
        refine for_it (walk_str (z := "abcd")) (fun j σ H' => ∃ (I' : Hp) (v5 v6 : Option V), σ = [some (.ref a), some (.ref D), v2, some (.str (sg cm)), some (.str (sg ci)), v5, v6] ∧ Grow No I H I' H' ∧ Own No H D (.dT (((abcd.take j).foldl (nsStep cm ci) ps4).map kvT)) I' H' ∧ ((abcd.take j).foldl (nsStep cm ci) ps4).length ≤ 104 + 16 * m + 4 * i + j)
          ⟨I4, _, _, rfl, g4, o4, l4⟩ (fun _ _ _ _ _ => trivial) ?_ ?_
        · rintro j y σ H5 H5' hj ⟨I5, v5, v6, rfl, g5, o5, l5⟩ ⟨rfl, cj, hcj, rfl⟩
          rw [fold_take (abcd_at hcj)]
          have hj4 : j < 4 := hj
          generalize (abcd.take j).foldl (nsStep cm ci) ps4 = ps5 at o5 l5
          refine ⟨_, rfl, _, rfl, (by show 2 ≤ sizeLine; decide), fun b hb => ?_⟩
          have gb : Grow No I5 H5' I5 (upd H5' b (.tup [.str (sg ci), .str (sg cm)])) := Grow.mine g5.sub hb
          have o6 := o5.grow gb
          refine ⟨_, rfl, D, _, rfl, DGet.t (k := keyT (ci, cm)) o6.at_ upd_same, _, rfl, ?_⟩
          rw [valT]
          have g6 := g5.trans gb
          generalize upd H5' b (.tup [.str (sg ci), .str (sg cm)]) = H6 at g6 o6 ⊢
          clear gb o5 hb
          by_cases z1 : (ci, cm) ∈ ps5
          · rw [decide_eq_true z1]
            refine iteT ⟨_, rfl, _, rfl, (by show 2 ≤ sizeLine; decide), fun b hb => ?_⟩
            have gb : Grow No I5 H6 I5 (upd H6 b (.tup [.str (sg cm), .str (sg cj)])) := Grow.mine g6.sub hb
            have o7 := o6.grow gb
            refine ⟨_, rfl, D, _, rfl, DGet.t (k := keyT (cm, cj)) o7.at_ upd_same, _, rfl, ?_⟩
            rw [valT]
            have g7 := g6.trans gb
            generalize upd H6 b (.tup [.str (sg cm), .str (sg cj)]) = H7 at g7 o7 ⊢
            clear gb o6 hb
            by_cases z2 : (cm, cj) ∈ ps5
            · rw [decide_eq_true z2, show nsStep cm ci ps5 cj = addP ps5 (ci, cj) from if_pos ⟨z1, z2⟩]
              refine iteT ⟨_, rfl, _, rfl, _, rfl, (by show 2 ≤ sizeLine; decide), fun b hb => ?_⟩
              have gb : Grow No I5 H7 I5 (upd H7 b (.tup [.str (sg ci), .str (sg cj)])) := Grow.mine g7.sub hb
              have o8 := o7.grow gb
              refine ⟨D, _, rfl, DPut.t (k := keyT (ci, cj)) o8.at_ upd_same (by rw [List.length_map, sizeLine_eq]; omega), ?_⟩
              rw [putT]
              have := addP_len ps5 (ci, cj)
              exact ⟨I5, _, _, rfl, (g7.trans gb).put o8, o8.put, by omega⟩
            · rw [decide_eq_false z2, show nsStep cm ci ps5 cj = ps5 from if_neg fun z => z2 z.2]
              exact iteF ⟨I5, _, _, rfl, g7, o7, by omega⟩
          · rw [decide_eq_false z1, show nsStep cm ci ps5 cj = ps5 from if_neg fun z => z1 z.1]
            exact iteF ⟨I5, _, _, rfl, g6, o6, by omega⟩
        · rintro σ H5 ⟨I5, v5, v6, rfl, g5, o5, l5⟩
          exact ⟨I5, _, _, _, rfl, g5, o5, l5⟩
      · rintro σ H4 ⟨I4, v4, v5, v6, rfl, g4, o4, l4⟩
        have e : 104 + 16 * m + 4 * ("abcd" : Str).cps.size = 104 + 16 * (m + 1) := by rw [hsz]; omega
        rw [e] at l4
        exact ⟨I4, _, _, _, _, _, rfl, g4, o4, l4⟩
    · rintro σ H3 ⟨I3, v2, v3, v4, v5, v6, rfl, g3, o3, l3⟩
      exact ⟨_, rfl, k _ D I3 H3 rfl g3 o3⟩
theorem ok_Timetable_letters (T : Txt K mg) (F : FnAt K "letters" "Timetable.letters" s_Timetable_letters (propGet K (He.ga K "Timetable") "letters"))  : Ok P w K mg base CX0 1 (propGet K (He.ga K "Timetable") "letters") ["self"] (sp_Timetable_letters K) := by
  refine ok_of F sc_Timetable_letters (fun _ _ _ _ _ _ us hl => match us, hl with | [_], _ => rfl) (fun vs H Q E h => ?_) (fun cdv A outer s H vs Q E hr h => ?_)
  · obtain ⟨_, _, _, _, rfl, _⟩ := h
    rfl
  · obtain ⟨a, dx, d, kvs, rfl, ha, hd, hl, k⟩ := h
    refine ⟨_, (pss_one (ps_ret (pe_joinD rfl pe_str (pe_fld (pv 0) rfl)))), ?_⟩
    refine ⟨⟨_, rfl⟩, _, rfl, a, _, dx, _, _, rfl, ha, T.cl_Timetable, T.na_Timetable_own_links, rfl, ?_⟩
    refine ⟨"", d, kvs.map kvS, (kvs.map (·.1)).map sg, rfl, rfl, hd, ?_, ?_, ?_⟩
    · rw [List.map_map, List.map_map, List.map_map]
      rfl
    · rw [List.map_map]
      show ((kvs.map (·.1)).map fun _ => 1).sum + _ * 0 ≤ _
      rw [sum_ones, List.length_map]
      omega
    · rw [join_signs]
      exact k
theorem ok_chain (T : Txt K mg) (F : FnAt K "chain" "chain" s_chain (He.ga K "chain")) (G_need_facts : Ok P w K mg base CX0 2 (He.ga K "need_facts") ["facts"] (sp_need_facts K)) (G_never_slower : Ok P w K mg base CX0 1 (He.ga K "never_slower") ["facts"] (sp_never_slower K)) : Ok P w K mg base CX0 4 (He.ga K "chain") ["facts"] (sp_chain K) := by
  refine ok_of F sc_chain (fun _ _ _ _ _ _ us hl => match us, hl with | [_], _ => rfl) (fun vs H Q E h => ?_) (fun cdv A outer s H vs Q E hr h => ?_)
  · obtain ⟨_, _, _, rfl, _⟩ := h
    rfl
  · obtain ⟨I, v, fs, rfl, ⟨a, t, ws, rfl, ha, hp⟩, hok, sb, k⟩ := h
    refine ⟨_, (pss_cons (ps_expr (pe_callC G_need_facts (hr.mono (by decide)) T.g_need_facts (pa_cons (pv 0) pa_nil)))
      (pss_cons (ps_set (i := 1) sc_chain.nd rfl (Or.inl rfl) (pe_callB cr_sortedS (by rfl) T.b_sorted (by decide +kernel) (pa_cons (pe_lc (own := [("pair", 2)]) (g := (gName 2)) rfl sc_chain.nd (pi_keysC (pe_callC G_never_slower (hr.mono (by decide)) T.g_never_slower (pa_cons (pv 0) pa_nil))) (blkOk_by (own := [("pair", 2)]) (N := n_chain) (sc := defScope s_chain) (by decide +kernel)) (fun _ _ _ _ _ => (pg_name (i := 2) sc_chain.nd rfl (Or.inl rfl))) (fun _ _ _ _ _ => (pts_one (pt_cmpR op_ne (pe_ix (ix_tupK (K := K) rfl) (pv 2) pe_int (fun _ _ => rfl)) (pe_ix (ix_tupK (K := K) rfl) (pv 2) pe_int (fun _ _ => rfl)) (nomark _)))) (fun _ _ _ _ _ => (pe_callTy SkE.call_str_str (by rfl) T.b_str (by decide +kernel) (pa_cons (pe_op op_add_str (pe_ix (ix_tupK (K := K) rfl) (pv 2) pe_int (fun _ _ => rfl)) (pe_ix (ix_tupK (K := K) rfl) (pv 2) pe_int (fun _ _ => rfl))) pa_nil)))) pa_nil)))
      (pss_one (ps_ret (pe_lc (own := [("text", 3)]) (g := (gName 3)) rfl sc_chain.nd (pi_list (pv 1)) (blkOk_by (own := [("text", 3)]) (N := n_chain) (sc := defScope s_chain) (by decide +kernel)) (fun _ _ _ _ _ => (pg_name (i := 3) sc_chain.nd rfl (Or.inl rfl))) (fun _ _ _ _ _ => pts_nil) (fun _ _ _ _ _ => (pe_tup (pa_cons (pe_ix ix_str (pv 3) pe_int (fun _ _ => rfl)) (pa_cons (pe_ix ix_str (pv 3) pe_int (fun _ _ => rfl)) pa_nil))))))))), ?_⟩
    refine ⟨_, rfl, I, a, t, ws, fs, rfl, ha, hp, hok.1, hok.2, sb, fun I1 H1 g1 => ?_⟩
    have hl12 := hok.2
    refine ⟨_, rfl, I1, a, t, ws, fs, rfl, g1.view _ _ ha, Paired.mono' (fun _ _ z => z.up g1.view) hp, by omega, g1.sub, fun nv d I2 H2 hnv g2 od => ⟨d, _, rfl, od.at_, fun o L hL => ?_⟩⟩
    have g3 := g2.put od (o' := .frz o (.dT (nv.map kvT)))
    have hd3 : upd H2 d (.frz o (.dT (nv.map kvT))) d = some (.frz o (.dT (nv.map kvT))) := upd_same
    generalize upd H2 d (.frz o (.dT (nv.map kvT))) = H3 at g3 hd3 hL ⊢
    have hlt := never_lt hok.lt
    have hlen := never_len hok.lt
    have hnn := never_nodup fs
    have k : ∀ q vs' gs I' H', Grow No I H I' H' → Own No H q (.lst vs') I' H' → Paired (isFc I') vs' gs → (gs.Nodup ∧ (∀ p, p ∈ gs ↔ p ∈ nv ∧ p.1 ≠ p.2) ∧ gs.Pairwise fun a b => keyF a ≤ keyF b) → Q (.ref q) H' := fun q vs' gs I' H' h1 h2 h3 h4 => k q vs' gs I' H' h1 h2 h3 (by rw [hnv] at h4; exact h4)
    rw [← hnv] at hlt hlen hnn
    clear hnv
    refine lc_pure (β := Str) walk_keysT nv (fun p => if p.1 ≠ p.2 then some (txF p) else none) (by rw [List.length_map]) g3.sub hL (by rw [List.length_map]; omega) (fun I' H' g => g.keep _ _ (fun z => z) hd3) ?_ ?_
    · rintro j p y I' H' H'' hj g ⟨rfl, kk, vv, q, hkv, rfl, hq⟩ Kn Ky kn ky
      rw [List.getElem?_map, hj] at hkv
      cases hkv
      have hq : H'' q = some (.tup [.str (sg p.1), .str (sg p.2)]) := hq
      refine ⟨rfl, ?_⟩
      refine ⟨_, rfl, q, _, 0, _, rfl, rfl, SqT.of hq, mm_at0, _, rfl, q, _, 1, _, rfl, rfl, SqT.of hq, mm_at1, rfl, _, rfl, ?_⟩
      rw [sgV_eq]
      by_cases z : p.1 = p.2
      · rw [decide_eq_true z]
        exact iteF (kn (if_neg fun y => y z) _ _ (Grow.refl g.sub))
      · rw [decide_eq_false z]
        refine iteT ⟨_, rfl, q, _, 0, _, rfl, rfl, SqT.of hq, mm_at0, _, rfl, q, _, 1, _, rfl, rfl, SqT.of hq, mm_at1, _, _, rfl, rfl, (by show 2 ≤ sizeLine; decide), _, rfl, ?_⟩
        exact ky (txF p) (if_pos z) _ _ _ (Grow.refl g.sub) (congrArg V.str (by unfold txF; rw [← mk_sg, ← mk_sg, mk_app] <;> rfl))
    intro I4 H4 vs4 g4 ow4 hp4
    have e4 := Paired.strs hp4
    rw [fm_filterF] at e4
    subst e4
    refine ⟨L, _, rfl, SqL.of ow4.at_, ?_, fun ys q pm hs hq => ?_⟩
    · rw [List.length_map]
      have := List.length_filter_le (fun p : Fc => decide (p.1 ≠ p.2)) nv
      omega
    obtain ⟨gs, hgp, rfl⟩ := L2.perm_lift txF pm _ rfl
    have hmem : ∀ p, p ∈ gs ↔ p ∈ nv ∧ p.1 ≠ p.2 := fun p => by
      rw [hgp.mem_iff, List.mem_filter, decide_eq_true_iff]
    have hgl : ∀ p ∈ gs, isLt p.1 ∧ isLt p.2 := fun p h => hlt p ((hmem p).mp h).1
    have hch : gs.Nodup ∧ (∀ p, p ∈ gs ↔ p ∈ nv ∧ p.1 ≠ p.2) ∧ gs.Pairwise (fun a b => keyF a ≤ keyF b) := ⟨hgp.nodup_iff.mpr (hnn.sublist List.filter_sublist), hmem, sort_key hgl hs⟩
    have hgn := len16 hch.1 hgl
    have g5 : Grow No I4 H4 (upd I4 q (.lst ((gs.map txF).map V.str))) (upd H4 q (.lst ((gs.map txF).map V.str))) := Grow.new g4.sub hq
    have hq5 : upd I4 q (.lst ((gs.map txF).map V.str)) q = some (.lst ((gs.map txF).map V.str)) := upd_same
    have G5 := g1.trans (g3.trans (g4.trans g5))
    generalize upd I4 q (.lst ((gs.map txF).map V.str)) = I5 at g5 hq5 G5
    generalize upd H4 q (.lst ((gs.map txF).map V.str)) = H5 at g5 G5 ⊢
    refine ⟨_, rfl, q, rfl, ⟨_, SqL.of (g5.sub _ _ hq5)⟩, fun L2 hL2 => ?_⟩
    refine lc_pure (β := FcR) walk_list gs (fun p => some ⟨p⟩) (by rw [List.length_map, List.length_map]) g5.sub hL2 (by rw [List.length_map, List.length_map]; omega) (fun I' H' g => SqL.of (g.sub _ _ (g.view _ _ hq5))) ?_ ?_
    · rintro j p y I' H' H'' hj g ⟨rfl, hy⟩ Kn Ky kn ky
      rw [List.getElem?_map, List.getElem?_map, hj] at hy
      cases hy
      refine ⟨rfl, lc_yes ?_⟩
      refine ⟨_, rfl, txF p, 0, p.1, rfl, rfl, (by show 2 ≤ sizeLine; decide), (by rw [show (txF p).cps.toList = [p.1, p.2] from mk_cps _, atI_nat' (j := 0) (by decide)]; rfl), _, rfl, txF p, 1, p.2, rfl, rfl, (by show 2 ≤ sizeLine; decide), (by rw [show (txF p).cps.toList = [p.1, p.2] from mk_cps _, atI_nat' (j := 1) (by decide)]; rfl), (by show 2 ≤ sizeLine; decide), fun u hu => ?_⟩
      have gu : Grow No I' H'' _ (upd H'' u (.tup [.str (sg p.1), .str (sg p.2)])) := Grow.new g.sub hu
      exact ky _ rfl _ _ _ gu ⟨u, rfl, upd_same⟩
    intro I6 H6 vs6 g6 ow6 hp6
    have z := fcr_paired hp6
    rw [show (gs.filterMap fun p => some (⟨p⟩ : FcR)).map FcR.p = gs by rw [List.filterMap_eq_map', List.map_map]; exact List.map_id' gs] at z
    exact k L2 vs6 gs I6 H6 (G5.trans g6) ⟨ow6.nt, Classical.byContradiction fun y => G5.live _ y ow6.n0, ow6.ni, ow6.at_⟩ z hch
theorem ok_keeps (T : Txt K mg) (F : FnAt K "keeps" "keeps" s_keeps (He.ga K "keeps")) (G_need_table : Ok P w K mg base CX0 1 (He.ga K "need_table") ["table"] (sp_need_table K)) (G_need_facts : Ok P w K mg base CX0 2 (He.ga K "need_facts") ["facts"] (sp_need_facts K)) (G_never_slower : Ok P w K mg base CX0 1 (He.ga K "never_slower") ["facts"] (sp_never_slower K)) (G_Timetable_letters : Ok P w K mg base CX0 1 (propGet K (He.ga K "Timetable") "letters") ["self"] (sp_Timetable_letters K)) (G_Timetable__getitem : Ok P w K mg base CX0 2 (He.ma K (He.ga K "Timetable") "__getitem__") ["self", "index"] (sp_Timetable__getitem K)) (G_Link__le : Ok P w K mg base CX0 3 (He.ma K (He.ga K "Link") "__le__") ["self", "other"] (sp_Link__le K)) : Ok P w K mg base CX0 5 (He.ga K "keeps") ["table", "facts"] (sp_keeps K) := by
  obtain ⟨fd_Timetable_letters, F_Timetable_letters, b_Timetable_letters, _⟩ := G_Timetable_letters.ok
  obtain ⟨fd_Timetable__getitem, F_Timetable__getitem, b_Timetable__getitem, _⟩ := G_Timetable__getitem.ok
  obtain ⟨fd_Link__le, F_Link__le, b_Link__le, _⟩ := G_Link__le.ok
  refine ok_of F sc_keeps (fun _ _ _ _ _ _ us hl => match us, hl with | [_, _], _ => rfl) (fun vs H Q E h => ?_) (fun cdv A outer s H vs Q E hr h => ?_)
  · obtain ⟨_, _, _, _, _, rfl, _⟩ := h
    rfl
  · obtain ⟨I, v, u, tb, fs, rfl, hT, hnd, h4, h60, ⟨a, t, ws, rfl, ha, hp⟩, hok, sb, k⟩ := h
    refine ⟨_, (pss_cons (ps_expr (pe_callC G_need_table (hr.mono (by decide)) T.g_need_table (pa_cons (pv 0) pa_nil)))
      (pss_cons (ps_expr (pe_callC G_need_facts (hr.mono (by decide)) T.g_need_facts (pa_cons (pv 1) pa_nil)))
      (pss_cons (ps_for PassesOwn.never rfl (pi_keysC (pe_callC G_never_slower (hr.mono (by decide)) T.g_never_slower (pa_cons (pv 1) pa_nil))) (pg_tup (by rfl) (pgs_cons (pg_name (i := 2) sc_keeps.nd rfl (Or.inl rfl)) (pgs_cons (pg_name (i := 3) sc_keeps.nd rfl (Or.inl rfl)) pgs_nil))) (pss_one (ps_if (PW.pt (pw_and (pt_cmpR op_in_sign (pv 2) (pe_propC T.cl_Timetable T.p_Timetable_letters G_Timetable_letters (hr.mono (by decide)) (pv 0)) rfl) (pw_and (pt_cmpR op_in_sign (pv 3) (pe_propC T.cl_Timetable T.p_Timetable_letters G_Timetable_letters (hr.mono (by decide)) (pv 0)) rfl) (pw_and1 (pt_not (pt_cmpR (op_own_le T.m_Link___le__ F_Link__le (hr.mono (by decide)) b_Link__le) (pe_getO T.m_Timetable___getitem__ G_Timetable__getitem (hr.mono (by decide)) pass0 (pv 0) (pv 2)) (pe_getO T.m_Timetable___getitem__ G_Timetable__getitem (hr.mono (by decide)) pass0 (pv 0) (pv 3)) (nomark _))))))) (pss_one (ps_ret pe_bl)) pss_nil)))
      (pss_one (ps_ret pe_bl))))), ?_⟩
    obtain ⟨x, dx, d, kvs, rfl, hx, hd, hlk⟩ := id hT
    have hkeys := linksP.keys hlk
    have hlen : kvs.length = tb.length := by
      have := congrArg List.length hkeys
      rwa [List.length_map, List.length_map] at this
    have hnk : (kvs.map (·.1)).Nodup := by rw [hkeys]; exact hnd
    have hl12 := hok.2
    refine ⟨_, rfl, x, dx, _, rfl, sb _ _ hx, ?_⟩
    refine ⟨_, rfl, I, a, t, ws, fs, rfl, ha, hp, hok.1, hl12, sb, fun I1 H1 g1 => ?_⟩
    refine ⟨_, rfl, I1, a, t, ws, fs, rfl, g1.view _ _ ha, Paired.mono' (fun _ _ z => z.up g1.view) hp, by omega, g1.sub, fun nv e I2 H2 hnv g2 od => ⟨e, _, rfl, od.at_, fun o => ?_⟩⟩
    rw [← hnv] at k
    clear hnv
    have g3 := g1.trans (g2.put od (o' := .frz o (.dT (nv.map kvT))))
    have he3 : upd H2 e (.frz o (.dT (nv.map kvT))) e = some (.frz o (.dT (nv.map kvT))) := upd_same
    generalize upd H2 e (.frz o (.dT (nv.map kvT))) = H3 at g3 he3 ⊢
    refine for_it walk_keysT (fun i σ H' => ∃ (I' : Hp) (v2 v3 : Option V), σ = [some (.ref x), some (.ref a), v2, v3] ∧ Grow No I2 H3 I' H' ∧ keptB (tb.map (·.1)) (lkT tb) (nv.take i) = true)
      ⟨I2, none, none, rfl, Grow.refl g3.sub, rfl⟩ (fun i σ H' _ ⟨_, _, _, _, g, _⟩ => g.keep _ _ (fun z => z) he3) ?_ ?_
    · rintro i y σ H4 H4' hi ⟨I4, v2, v3, rfl, g4, hk4⟩ ⟨rfl, kk, vv, q, hkv, rfl, hq⟩
      obtain ⟨p, hp', rfl, rfl⟩ : ∃ p, nv[i]? = some p ∧ kk = keyT p ∧ vv = .bl true := by
        rw [List.getElem?_map] at hkv
        cases z : nv[i]? with
        | none => rw [z] at hkv; cases hkv
        | some p => rw [z] at hkv; cases hkv; exact ⟨p, rfl, rfl, rfl⟩
      have hpm := List.mem_of_getElem? hp'
      have g5 := g3.trans g4
      have e5 := g5.view
      have S : ∀ {b : Addr} {ob : HO}, I b = some ob → H4' b = some ob := fun eb => g5.sub _ _ (e5 _ _ eb)
      have hmk : ∀ c : Nat, decide (c ∈ (mk (kvs.map (·.1))).cps.toList) = decide (c ∈ tb.map (·.1)) := fun c => by rw [mk_cps, hkeys]
      refine ⟨q, _, rfl, SqT.of hq, rfl, _, _, rfl, _, _, rfl, rfl, ?_⟩
      refine ⟨_, rfl, _, rfl, x, dx, _, rfl, S hx, x, dx, d, kvs, rfl, S hx, S hd, by omega, p.1, _, rfl, rfl, _, rfl, ?_⟩
      rw [hmk]
      by_cases z1 : p.1 ∈ tb.map (·.1)
      · rw [decide_eq_true z1]
        refine iteT ⟨_, rfl, _, rfl, x, dx, _, rfl, S hx, x, dx, d, kvs, rfl, S hx, S hd, by omega, p.2, _, rfl, rfl, _, rfl, ?_⟩
        rw [hmk]
        by_cases z2 : p.2 ∈ tb.map (·.1)
        · rw [decide_eq_true z2]
          obtain ⟨v1, n1, a1, b1, c1, d1⟩ := tb_link hlk hnd z1
          obtain ⟨v2', n2, a2, b2, c2, d2⟩ := tb_link hlk hnd z2
          obtain ⟨la, lda, lta, rfl, hla, _⟩ := id c1
          obtain ⟨lb, ldb, ltb, rfl, hlb, _⟩ := id c2
          refine iteT ⟨_, rfl, _, rfl, x, dx, _, rfl, S hx, x, dx, d, kvs, p.1, _, rfl, S hx, S hd, a1, _, rfl, _, rfl, x, dx, _, rfl, S hx, x, dx, d, kvs, p.2, _, rfl, S hx, S hd, a2, la, lb, lda, ldb, _, _, rfl, rfl, S hla, S hlb, ?_⟩
          refine ⟨I4, .ref la, .ref lb, n1, n2, rfl, c1.up e5, c2.up e5, h60 _ d1, h60 _ d2, g4.sub, fun I6 H6 g6 => ⟨_, rfl, _, rfl, ?_⟩⟩
          have hq' : lkT tb p.1 p.2 = leB n1 n2 := by unfold lkT; rw [b1, b2] <;> rfl
          cases hle : leB n1 n2 with
          | true => exact iteF ⟨I6, _, _, rfl, g4.trans g6, kept_step hp' hk4 fun _ _ => hq'.trans hle⟩
          | false =>
            have hkf := kept_false (q := lkT tb) hpm z1 z2 (hq'.trans hle)
            rw [hkf] at k
            exact iteT (k _ _ (g5.trans g6))
        · rw [decide_eq_false z2]
          exact iteF ⟨I4, _, _, rfl, g4, kept_step hp' hk4 fun _ y => absurd y z2⟩
      · rw [decide_eq_false z1]
        exact iteF ⟨I4, _, _, rfl, g4, kept_step hp' hk4 fun y => absurd y z1⟩
    · rintro σ H4 ⟨I4, v2, v3, rfl, g4, hk4⟩
      rw [List.length_map, List.take_of_length_le (Nat.le_refl _)] at hk4
      rw [hk4] at k
      exact k _ _ (g3.trans g4)
end
end Nw

namespace Nw
open PySem PySem.Spec PyProof.Rows L2
/-! ### the law's own facts, and what follows from them -/
theorem Drw.nview {D : DA} {n : Nat} {I H : Hp} {p : Addr} {o : HO} (d : Drw D n I H) (h : I p = some o) : ¬ TD D p := fun z => by
  obtain ⟨_, _, _, _, s, _⟩ := d.ex
  rcases z with rfl | rfl | rfl
  · rw [s.vd] at h; cases h
  · rw [s.vg] at h; cases h
  · rw [s.vl] at h; cases h
def isFcs (I : Hp) (v : V) (fs : List Fc) : Prop := ∃ a ws, v = .ref a ∧ I a = some (.lst ws) ∧ Paired (isFc I) ws fs
theorem isFcs.up {I I' : Hp} {v : V} {fs : List Fc} (h : isFcs I v fs) (e : Same I I') : isFcs I' v fs := let ⟨a, ws, h1, h2, h3⟩ := h; ⟨a, ws, h1, e _ _ h2, Paired.mono' (fun _ _ z => z.up e) h3⟩
theorem isFcs.seq {I : Hp} {v : V} {fs : List Fc} (h : isFcs I v fs) : isSeq I v fs := let ⟨a, ws, h1, h2, h3⟩ := h; ⟨a, false, ws, h1, h2, h3⟩
theorem fc_mono {I I' : Hp} {ws : List V} {fs : List Fc} (h : Paired (isFc I) ws fs) (e : Same I I') : Paired (isFc I') ws fs := Paired.mono' (fun _ _ z => z.up e) h
theorem fc_app {I : Hp} : ∀ {ws us : List V} {fs gs : List Fc}, Paired (isFc I) ws fs → Paired (isFc I) us gs → Paired (isFc I) (ws ++ us) (fs ++ gs)
  | _, _, _, _, .nil, h => h
  | _, _, _, _, .cons a t, h => .cons a (fc_app t h)
def sp_l_facts (K : PySem.W.Frag) : Sp := fun vs H Q _ => ∃ (I : Hp) (D : DA) (n : Nat) (l : List Nat) (many : Nat), vs = [.ref D.d, .str (mk l), .int many] ∧ Drw D n I H ∧ n + 20 < lim ∧ l.length ≤ 4 ∧ (∀ c ∈ l, isLt c) ∧ 1 ≤ many ∧ many ≤ 12 ∧
  ∀ v fs I' H', okFs fs → isFcs I' v fs → Grow (TD D) I H I' H' → Drw D (n + 20) I' H' → Q v H'
/-! pairs as data -/
def dF (p : Fc) : PyData := .tuple [.str (sg p.1), .str (sg p.2)]
theorem isFc.dp {K : PySem.W.Frag} {I H : Hp} {v : V} {p : Fc} (h : isFc I v p) (sb : Same I H) : Dp K H v (dF p) := by
  obtain ⟨a, rfl, ha⟩ := h
  exact .tup (SqT.of (sb _ _ ha)) (.cons (.str _) (.cons (.str _) .nil))
theorem fc_dps {K : PySem.W.Frag} {I H : Hp} (sb : Same I H) : ∀ {ws : List V} {fs : List Fc}, Paired (isFc I) ws fs → DpAll K H ws (fs.map dF)
  | _, _, .nil => .nil
  | _, _, .cons h t => .cons (h.dp sb) (fc_dps sb t)
theorem sg_lay {c : Nat} (h : isLt c) : PyData.strOk (sg c) = true := by
  unfold isLt at h
  have z : c = 97 ∨ c = 98 ∨ c = 99 ∨ c = 100 := by omega
  rcases z with rfl | rfl | rfl | rfl <;> decide +kernel
theorem lay_fc {p : Fc} (h : isLt p.1 ∧ isLt p.2) : (dF p).canLay0 = true := by
  show (PyData.strOk (sg p.1) && (PyData.strOk (sg p.2) && true)) = true
  rw [sg_lay h.1, sg_lay h.2] <;> rfl
theorem lay_fcs : ∀ {fs : List Fc}, (∀ p ∈ fs, isLt p.1 ∧ isLt p.2) → PyData.canLayAll0 (fs.map dF) = true ∧ PyData.depthAll (fs.map dF) ≤ 1
  | [], _ => ⟨rfl, Nat.zero_le _⟩
  | p :: fs, h => by
    obtain ⟨h1, h2⟩ := lay_fcs (fs := fs) fun q hq => h q (List.mem_cons_of_mem _ hq)
    refine ⟨?_, ?_⟩
    · show ((dF p).canLay0 && PyData.canLayAll0 (fs.map dF)) = true
      rw [h1, lay_fc (h p (List.mem_cons_self ..))] <;> rfl
    · show max (PyData.depth (dF p)) (PyData.depthAll (fs.map dF)) ≤ 1
      exact Nat.max_le.mpr ⟨Nat.le_refl 1, h2⟩
theorem shaped_fc {p : Fc} (h : isLt p.1 ∧ isLt p.2) : SeqAt.shaped (dF p) = true := by
  unfold SeqAt.shaped
  rw [lay_fc h, Bool.true_and]
  exact decide_eq_true (show 1 ≤ 64 by decide)
theorem shaped_fcs {fs : List Fc} (h : ∀ p ∈ fs, isLt p.1 ∧ isLt p.2) : SeqAt.shaped (.list (fs.map dF)) = true := by
  obtain ⟨h1, h2⟩ := lay_fcs h
  show (PyData.canLayAll0 (fs.map dF) && decide (PyData.depthAll (fs.map dF) + 1 ≤ 64)) = true
  rw [h1, decide_eq_true (by omega)] <;> rfl
theorem eqv_fc (p q : Fc) : PyData.eqv (dF p) (dF q) = decide (p = q) := by
  show ((sg p.1 == sg q.1) && ((sg p.2 == sg q.2) && true)) = _
  rw [Bool.eq_iff_iff]
  simp only [Bool.and_eq_true, beq_iff_eq, decide_eq_true_eq, Bool.and_true]
  exact ⟨fun ⟨h1, h2⟩ => Prod.ext (sg_inj h1) (sg_inj h2), fun h => by subst h; exact ⟨rfl, rfl⟩⟩
theorem any_fc (fs : List Fc) (p : Fc) : ((fs.map dF).any fun z => PyData.eqv z (dF p)) = decide (p ∈ fs) := by
  rw [Bool.eq_iff_iff, List.any_eq_true, decide_eq_true_iff]
  constructor
  · rintro ⟨z, hz, h⟩
    obtain ⟨q, hq, rfl⟩ := List.mem_map.mp hz
    rw [eqv_fc] at h
    rw [← of_decide_eq_true h]
    exact hq
  · exact fun h => ⟨dF p, List.mem_map_of_mem h, by rw [eqv_fc]; exact decide_eq_true rfl⟩
def sp_l_slower (K : PySem.W.Frag) : Sp := fun vs H Q _ => ∃ (I : Hp) (v : V) (fs : List Fc), vs = [v] ∧ isFcs I v fs ∧ (∀ p ∈ fs, isLt p.1 ∧ isLt p.2) ∧ fs.length ≤ 12 ∧ Same I H ∧ ∀ u I' H', Grow No I H I' H' → isFcs I' u (slow fs) → Q u H'
theorem slAdd_lt {ps : List Fc} {f : Fc} (h : ∀ p ∈ ps, isLt p.1 ∧ isLt p.2) (hf : isLt f.1 ∧ isLt f.2) : ∀ p ∈ slAdd ps f, isLt p.1 ∧ isLt p.2 := fun p hp => by
  rcases mem_slAdd.mp hp with hp | ⟨e, hp⟩
  · exact h p hp
  · rw [e]
    exact ⟨hf.1, (h _ hp).2⟩
section
variable {P : Program} {w : World} {K : PySem.W.Frag} {mg : Str → Option Value} {base : Heap}
theorem ok_l_facts (T : Txt K mg) (F : FnAt K "_law_facts" "_law_facts" s_l_facts (He.ga K "_law_facts")) (G_l_next : Ok P w K mg base CX0 1 (He.ga K "_law_next") ["_law_draw", "_law_many"] (sp_l_next K)) (G_l_pick : Ok P w K mg base CX0 2 (He.ga K "_law_pick") ["_law_draw", "_law_some_here"] (sp_l_pick K)) : Ok P w K mg base CX0 3 (He.ga K "_law_facts") ["_law_draw", "_law_letters", "_law_many"] (sp_l_facts K) := by
  refine ok_of F sc_l_facts (fun _ _ _ _ _ _ us hl => match us, hl with | [_, _, _], _ => rfl) (fun vs H Q E h => ?_) (fun cdv A outer s H vs Q E hr h => ?_)
  · obtain ⟨_, _, _, _, _, rfl, _⟩ := h
    rfl
  · obtain ⟨I, D, n, l, many, rfl, dr, hlim, hl4, hlt, hm1, hm2, k⟩ := h
    refine ⟨_, (pss_cons (ps_par (i := 3) (j := 4) (by rfl) sc_l_facts.nd rfl rfl (by decide) rfl rfl (pa_cons (pe_lst pa_nil) (pa_cons (pe_lst pa_nil) pa_nil)) (by rfl))
      (pss_cons (ps_for PassesOwn.never rfl (pi_str (pv 1)) (pg_name (i := 5) sc_l_facts.nd rfl (Or.inr rfl)) (pss_one (ps_set (i := 3) sc_l_facts.nd rfl (Or.inl rfl) (pe_op op_cat (pv 3) (pe_lc (own := [("_law_y", 7)]) (g := (gName 7)) rfl sc_l_facts.nd (pi_str (pv 1)) (blkOk_by (own := [("_law_y", 7)]) (N := n_l_facts) (sc := defScope s_l_facts) (by decide +kernel)) (fun _ _ _ _ _ => (pg_name (i := 7) sc_l_facts.nd rfl (Or.inl rfl))) (fun _ _ _ _ _ => (pts_one (pt_cmpR op_ne (pv 5) (pv 7) (nomark _)))) (fun _ _ _ _ _ => (pe_tup (pa_cons (pv 5) (pa_cons (pv 7) pa_nil)))))))))
      (pss_cons (ps_for PassesOwn.never rfl (pi_range1 rfl T.b_range (pa_cons (pe_op op_mul (pe_callC G_l_next (hr.mono (by decide)) T.g__law_next (pa_cons (pv 0) (pa_cons (pe_op op_add (pv 2) pe_int) pa_nil))) (pe_callTy call_int1 (by rfl) T.b_int (by decide +kernel) (pa_cons (pe_cmpR (op_neNil hr.units) (pv 3) (pe_lst pa_nil) (nomark _)) pa_nil))) pa_nil)) (pg_name (i := 6) sc_l_facts.nd rfl (Or.inl rfl)) (pss_one (ps_expr (pe_bm PySem.F.plainAttrs_list PySem.F.slot_list_append PySem.F.type_list_append mt_append (pv 4) (pa_cons (pe_callC G_l_pick (hr.mono (by decide)) T.g__law_pick (pa_cons (pv 0) (pa_cons (pv 3) pa_nil))) pa_nil)))))
      (pss_one (ps_ret (pv 4)))))), ?_⟩
    refine ⟨(by show 0 ≤ sizeLine; decide), fun p hp => ⟨(by show 0 ≤ sizeLine; decide), fun f hf => ⟨_, _, rfl, ?_⟩⟩⟩
    have gp : Grow (TD D) I H (upd I p (.lst [])) (upd H p (.lst [])) := Grow.new dr.sub hp
    have dp := dr.grow (Grow.new (o := .lst []) dr.sub hp)
    have gf : Grow (TD D) (upd I p (.lst [])) (upd H p (.lst [])) (upd I p (.lst [])) (upd (upd H p (.lst [])) f (.lst [])) := Grow.mine gp.sub hf
    have of_ : Own (TD D) H f (.lst []) (upd I p (.lst [])) (upd (upd H p (.lst [])) f (.lst [])) := Own.new gp.sub (.inr gp.live) (fun x t => gp.live x (dr.live x t)) hf
    have df := dp.mine hf (o := .lst [])
    have hpI : upd I p (.lst []) p = some (.lst []) := upd_same
    have g0 := gp.trans gf
    revert of_ df hpI g0
    generalize upd I p (.lst []) = I0
    generalize upd (upd H p (.lst [])) f (.lst []) = H0
    intro of_ df hpI g0
    clear gp dp gf hp hf
    refine ⟨_, rfl, _, rfl, ?_⟩
    refine for_it (walk_str (z := mk l)) (fun i σ H' => ∃ (I' : Hp) (ap : Addr) (ws : List V) (ps : List Fc) (v5 v6 v7 : Option V), σ = [some (.ref D.d), some (.str (mk l)), some (.int many), some (.ref ap), some (.ref f), v5, v6, v7] ∧ Grow (TD D) I H I' H' ∧ Own (TD D) H f (.lst []) I' H' ∧ Drw D n I' H' ∧ I' ap = some (.lst ws) ∧ Paired (isFc I') ws ps ∧ (∀ q ∈ ps, okFc q) ∧ ps.length ≤ 4 * i)
      ⟨I0, p, [], [], none, none, none, rfl, g0, of_, df, hpI, .nil, (fun _ z => nomatch z), Nat.le_refl _⟩ (fun _ _ _ _ _ => trivial) ?_ ?_
    · rintro i y σ H1 H1' hi ⟨I1, ap, ws, ps, v5, v6, v7, rfl, g1, o1, d1, hap, hps, hok, hpl⟩ ⟨rfl, cx, hcx, rfl⟩
      have hcx' : l[i]? = some cx := by simpa [mk] using hcx
      have hxl := hlt cx (List.mem_of_getElem? hcx')
      have hil : i < l.length := (List.getElem?_eq_some_iff.mp hcx').1
      have hlw := Nw.Paired.len hps
      refine ⟨_, rfl, _, rfl, _, rfl, fun L hL => ?_⟩
      refine lc_pure (β := FcR) (walk_str (z := mk l)) l (fun c => if cx ≠ c then some ⟨(cx, c)⟩ else none) (mk_len l).symm d1.sub hL (by rw [show (mk l).cps.size = l.length from mk_len l]; omega) (fun _ _ _ => trivial) ?_ ?_
      · rintro j c y I' H' H'' hj g ⟨rfl, c', hc', rfl⟩ Kn Ky kn ky
        have e : c' = c := by
          rw [show (mk l).cps[j]? = l[j]? by simp [mk], hj] at hc'
          exact (Option.some.inj hc').symm
        subst e
        refine ⟨rfl, _, rfl, _, rfl, rfl, _, rfl, ?_⟩
        rw [sgV_eq]
        by_cases z : cx = c'
        · rw [decide_eq_true z]
          exact iteF (kn (if_neg fun y => y z) _ _ (Grow.refl g.sub))
        · rw [decide_eq_false z]
          refine iteT ⟨_, rfl, _, rfl, (by show 2 ≤ sizeLine; decide), fun u hu => ?_⟩
          have gu : Grow No I' H'' _ (upd H'' u (.tup [.str (sg cx), .str (sg c')])) := Grow.new g.sub hu
          exact ky _ (if_pos z) _ _ _ gu ⟨u, rfl, upd_same⟩
      intro I2 H2 vs2 g2 ow2 hp2
      have z2 := fcr_paired hp2
      have hgs : ∀ q ∈ (l.filterMap fun c => if cx ≠ c then some (⟨(cx, c)⟩ : FcR) else none).map FcR.p, okFc q := fun q hq => by
        obtain ⟨r, hr, rfl⟩ := List.mem_map.mp hq
        obtain ⟨c, hc, h⟩ := List.mem_filterMap.mp hr
        split at h
        · rename_i z
          cases h
          exact ⟨hxl, hlt c hc, z⟩
        · cases h
      have hgl : ((l.filterMap fun c => if cx ≠ c then some (⟨(cx, c)⟩ : FcR) else none).map FcR.p).length ≤ 4 := by
        rw [List.length_map]
        exact Nat.le_trans (List.length_filterMap_le _ _) hl4
      generalize (l.filterMap fun c => if cx ≠ c then some (⟨(cx, c)⟩ : FcR) else none).map FcR.p = gs at z2 hgs hgl
      have hlv := Nw.Paired.len z2
      refine ⟨ap, L, ws, vs2, rfl, rfl, g2.sub _ _ (g2.view _ _ hap), ow2.at_, by rw [sizeLine_eq]; omega, fun r hr => ?_⟩
      have gr : Grow No I2 H2 (upd I2 r (.lst (ws ++ vs2))) (upd H2 r (.lst (ws ++ vs2))) := Grow.new g2.sub hr
      have G := g2.trans gr
      refine ⟨_, r, ws ++ vs2, ps ++ gs, _, _, _, rfl, g1.trans G.no, o1.grow G.no, d1.grow G, upd_same, fc_app (fc_mono hps G.view) (fc_mono z2 gr.view), fun q hq => (List.mem_append.mp hq).elim (hok q) (hgs q), ?_⟩
      rw [List.length_append]
      omega
    · rintro σ H1 ⟨I1, ap, ws, ps, v5, v6, v7, rfl, g1, o1, d1, hap, hps, hok, hpl⟩
      have hlw := Nw.Paired.len hps
      rw [show (mk l).cps.size = l.length from mk_len l] at hpl
      refine ⟨_, rfl, _, rfl, _, _, rfl, rfl, I1, D, n, many + 1, ?_, d1, by omega, by omega, by omega, fun z H2 hz0 hz1 g2 d2 => ?_⟩
      · show [V.ref D.d, V.int ((many : Int) + 1)] = [V.ref D.d, V.int ((many + 1 : Nat) : Int)]
        rfl
      refine ⟨_, rfl, (by show 0 ≤ sizeLine; decide), fun q0 hq0 => ?_⟩
      have g3 : Grow (TD D) I1 H2 I1 (upd H2 q0 (.lst [])) := Grow.mine d2.sub hq0
      have d3 := d2.mine hq0 (o := .lst [])
      have o3 := (o1.grow g2).grow g3
      have hapH : upd H2 q0 (.lst []) ap = some (.lst ws) := d3.sub _ _ hap
      refine ⟨ap, q0, ws, rfl, rfl, SqL.of hapH, SqL.of upd_same, .inr ⟨!ws.isEmpty, rfl, ?_⟩⟩
      have g03 := g1.trans (g2.trans g3)
      generalize upd H2 q0 (.lst []) = H3 at g03 d3 o3 hapH ⊢
      clear g2 g3 d2 hq0 o1 d1 g1
      have hb : (if (!ws.isEmpty) = true then (1 : Int) else 0) = 1 ∧ ws ≠ [] ∨ (if (!ws.isEmpty) = true then (1 : Int) else 0) = 0 := by
        cases ws with
        | nil => exact .inr rfl
        | cons a b => exact .inl ⟨rfl, by simp⟩
      obtain ⟨r, hr, hr0, hr1, hrn⟩ : ∃ r : Int, z * (if (!ws.isEmpty) = true then (1 : Int) else 0) = r ∧ 0 ≤ r ∧ r ≤ 12 ∧ (0 < r → ws ≠ []) := by
        rcases hb with ⟨hb, hne⟩ | hb
        · exact ⟨z, by rw [hb]; omega, hz0, by omega, fun _ => hne⟩
        · exact ⟨0, by rw [hb]; omega, Int.le_refl _, by omega, fun h => absurd h (by omega)⟩
      refine ⟨_, _, rfl, rfl, .inl ⟨by omega, by omega⟩, r, congrArg (fun i => [V.int i]) hr, by omega, by omega, ?_⟩
      refine for_it (walk_range (lo := 0) (n := r.toNat)) (fun i σ H' => ∃ (I' : Hp) (us : List V) (fs : List Fc) (v5 v6 v7 : Option V), σ = [some (.ref D.d), some (.str (mk l)), some (.int many), some (.ref ap), some (.ref f), v5, v6, v7] ∧ Grow (TD D) I H I' H' ∧ Own (TD D) H f (.lst us) I' H' ∧ Drw D (n + 1 + i) I' H' ∧ I' ap = some (.lst ws) ∧ Paired (isFc I') ws ps ∧ Paired (isFc I') us fs ∧ (∀ q ∈ fs, okFc q) ∧ fs.length = i)
        ⟨I1, [], [], _, _, _, rfl, g03, o3, d3, hap, hps, .nil, (fun _ z => nomatch z), rfl⟩ (fun _ _ _ _ _ => trivial) ?_ ?_
      · rintro i y σ H4 H4' hi ⟨I4, us, fs, v5, v6, v7, rfl, g4, o4, d4, hap4, hps4, hus, hok4, hl4'⟩ ⟨rfl, rfl⟩
        have hne := hrn (by omega)
        refine ⟨_, rfl, .inl ⟨rfl, _, SqL.of o4.at_⟩, _, rfl, _, rfl, I4, D, _, _, rfl, d4, by omega, .inl ⟨ap, ws, rfl, Drw.nview d4 hap4, d4.sub _ _ hap4, hne, by omega, fun j y H5 hy g5 d5 => ?_⟩⟩
        obtain ⟨p, hp, hr⟩ := Nw.Paired.at' hps4 hy
        have o5 := o4.grow g5
        have hlu := Nw.Paired.len hus
        refine ⟨f, us, y, rfl, rfl, o5.at_, by rw [sizeLine_eq]; omega, I4, us ++ [y], fs ++ [p], _, _, _, rfl, (g4.trans g5).put o5, o5.put, (d5.put o5).mono (by omega), hap4, hps4, Paired.snoc hus hr, fun q hq => ?_, ?_⟩
        · rcases List.mem_append.mp hq with hq | hq
          · exact hok4 q hq
          · rw [List.mem_singleton.mp hq]
            exact hok p (List.mem_of_getElem? hp)
        · rw [List.length_append, hl4'] <;> rfl
      · rintro σ H4 ⟨I4, us, fs, v5, v6, v7, rfl, g4, o4, d4, hap4, hps4, hus, hok4, hl4'⟩
        exact ⟨_, rfl, k (.ref f) fs _ _ ⟨hok4, by omega⟩ ⟨f, us, rfl, upd_same, fc_mono hus (Same.up o4.ni)⟩ (g4.give o4) ((d4.view o4.nt o4.at_).mono (by omega))⟩
end
end Nw

namespace Nw
open PySem PySem.Spec PyProof.Rows L2
theorem slow_mid {fs : List Fc} (hf : ∀ p ∈ fs, isLt p.1 ∧ isLt p.2) (i j : Nat) : ((fs.take j).foldl slAdd (slN fs i)).Nodup ∧ ∀ p ∈ (fs.take j).foldl slAdd (slN fs i), isLt p.1 ∧ isLt p.2 := by
  have h0 : (slN fs i).Nodup ∧ ∀ p ∈ slN fs i, isLt p.1 ∧ isLt p.2 := slN_inv (I := fun ps : List Fc => ps.Nodup ∧ ∀ p ∈ ps, isLt p.1 ∧ isLt p.2) ⟨by decide, fun p hp => by
    obtain ⟨c, hc, rfl⟩ := List.mem_map.mp hp
    exact ⟨abcd_mem.mp hc, abcd_mem.mp hc⟩⟩ (fun ps h f h1 => ⟨nodup_slAdd h.1, slAdd_lt h.2 (hf f h1)⟩) i
  exact fold_inv (I := fun ps : List Fc => ps.Nodup ∧ ∀ p ∈ ps, isLt p.1 ∧ isLt p.2) (fs.take j) _ h0 fun ps h f h1 => ⟨nodup_slAdd h.1, slAdd_lt h.2 (hf f (List.mem_of_mem_take h1))⟩
theorem fm_slAdd (ps : List Fc) (f : Fc) : ps ++ (ps.filterMap fun q => if q.1 = f.2 ∧ (f.1, q.2) ∉ ps then some (⟨(f.1, q.2)⟩ : FcR) else none).map FcR.p = slAdd ps f := by
  unfold slAdd
  congr 1
  rw [← List.filterMap_eq_map, List.filterMap_filterMap]
  congr 1
  funext q
  split <;> rfl
section
variable {P : Program} {w : World} {K : PySem.W.Frag} {mg : Str → Option Value} {base : Heap}
theorem ok_l_slower (T : Txt K mg) (F : FnAt K "_law_slower" "_law_slower" s_l_slower (He.ga K "_law_slower"))  : Ok P w K mg base CX0 1 (He.ga K "_law_slower") ["_law_facts_here"] (sp_l_slower K) := by
  refine ok_of F sc_l_slower (fun _ _ _ _ _ _ us hl => match us, hl with | [_], _ => rfl) (fun vs H Q E h => ?_) (fun cdv A outer s H vs Q E hr h => ?_)
  · obtain ⟨_, _, _, rfl, _⟩ := h
    rfl
  · obtain ⟨I, v, fs, rfl, ⟨fa, fws, rfl, hfa, hfs⟩, hlt, hl12, sb, k⟩ := h
    refine ⟨_, (pss_cons (ps_set (i := 1) sc_l_slower.nd rfl (Or.inr rfl) (pe_lc (own := [("_law_letter", 5)]) (g := (gName 5)) rfl sc_l_slower.nd (pi_str pe_str) (blkOk_by (own := [("_law_letter", 5)]) (N := n_l_slower) (sc := defScope s_l_slower) (by decide +kernel)) (fun _ _ _ _ _ => (pg_name (i := 5) sc_l_slower.nd rfl (Or.inl rfl))) (fun _ _ _ _ _ => pts_nil) (fun _ _ _ _ _ => (pe_tup (pa_cons (pv 5) (pa_cons (pv 5) pa_nil))))))
      (pss_cons (ps_for PassesOwn.never rfl (pi_range1 rfl T.b_range (pa_cons pe_int pa_nil)) (pg_name (i := 2) sc_l_slower.nd rfl (Or.inl rfl)) (pss_one (ps_for PassesOwn.never rfl (pi_list (pv 0)) (pg_tup (by rfl) (pgs_cons (pg_name (i := 3) sc_l_slower.nd rfl (Or.inr rfl)) (pgs_cons (pg_name (i := 4) sc_l_slower.nd rfl (Or.inr rfl)) pgs_nil))) (pss_one (ps_set (i := 1) sc_l_slower.nd rfl (Or.inr rfl) (pe_op op_cat (pv 1) (pe_lc (own := [("_law_begin", 6), ("_law_end_here", 7)]) (g := (gTup K 2 (gCons (gName 6) (gCons (gName 7) gNil)))) rfl sc_l_slower.nd (pi_list (pv 1)) (blkOk_by (own := [("_law_begin", 6), ("_law_end_here", 7)]) (N := n_l_slower) (sc := defScope s_l_slower) (by decide +kernel)) (fun _ _ _ _ _ => (pg_tup (by rfl) (pgs_cons (pg_name (i := 6) sc_l_slower.nd rfl (Or.inl rfl)) (pgs_cons (pg_name (i := 7) sc_l_slower.nd rfl (Or.inl rfl)) pgs_nil)))) (fun _ _ _ _ _ => (pts_one (PW.pt (pw_and (pt_cmpR op_eq (pv 6) (pv 4) (nomark _)) (pw_and1 (pt_cmpR (op_notInDK (K := K) rfl (un65 hr)) (pe_tup (pa_cons (pv 3) (pa_cons (pv 7) pa_nil))) (pv 1) rfl)))))) (fun _ _ _ _ _ => (pe_tup (pa_cons (pv 3) (pa_cons (pv 7) pa_nil)))))))))))
      (pss_one (ps_ret (pv 1))))), ?_⟩
    have hfl := Nw.Paired.len hfs
    refine ⟨_, rfl, fun L hL => ?_⟩
    refine lc_pure (β := FcR) (walk_str (z := "abcd")) abcd (fun c => some ⟨(c, c)⟩) (by decide +kernel) sb hL (by decide +kernel) (fun _ _ _ => trivial) ?_ ?_
    · rintro j c y I' H' H'' hj g ⟨rfl, c', hc', rfl⟩ Kn Ky kn ky
      have e : c' = c := by
        have := abcd_at hc'
        rw [hj] at this
        exact (Option.some.inj this).symm
      subst e
      refine ⟨rfl, lc_yes ⟨_, rfl, _, rfl, (by show 2 ≤ sizeLine; decide), fun u hu => ?_⟩⟩
      have gu : Grow No I' H'' _ (upd H'' u (.tup [.str (sg c'), .str (sg c')])) := Grow.new g.sub hu
      exact ky _ rfl _ _ _ gu ⟨u, rfl, upd_same⟩
    intro I1 H1 vs1 g1 ow1 hp1
    have z1 := fcr_paired hp1
    rw [show (abcd.filterMap fun c => some (⟨(c, c)⟩ : FcR)).map FcR.p = slN fs 0 from rfl] at z1
    have g2 := g1.give ow1
    have hL2 : upd I1 L (.lst vs1) L = some (.lst vs1) := upd_same
    have z2 := fc_mono z1 (Same.up (o := .lst vs1) ow1.ni)
    generalize upd I1 L (.lst vs1) = I2 at g2 hL2 z2
    clear g1 ow1 hp1 z1 hL
    refine ⟨4, rfl, by decide, by decide, ?_⟩
    refine for_it (walk_range (lo := 0) (n := 4)) (fun i σ H' => ∃ (I' : Hp) (a : Addr) (ws : List V) (v2 v3 v4 v5 v6 v7 : Option V), σ = [some (.ref fa), some (.ref a), v2, v3, v4, v5, v6, v7] ∧ Grow No I H I' H' ∧ I' a = some (.lst ws) ∧ Paired (isFc I') ws (slN fs i))
      ⟨I2, L, vs1, none, none, none, none, none, none, rfl, g2, hL2, z2⟩ (fun _ _ _ _ _ => trivial) ?_ ?_
    · rintro i y σ H3 H3' hi ⟨I3, a, ws, v2, v3, v4, v5, v6, v7, rfl, g3, ha, hws⟩ ⟨rfl, rfl⟩
      refine ⟨_, rfl, fa, rfl, ⟨_, SqL.of (g3.sub _ _ (g3.view _ _ hfa))⟩, ?_⟩
      refine for_it (walk_list (K := K) (a := fa) (xs := fws)) (fun j σ H' => ∃ (I' : Hp) (a : Addr) (ws : List V) (v3 v4 v5 v6 v7 : Option V), σ = [some (.ref fa), some (.ref a), some (.int (0 + (i : Int))), v3, v4, v5, v6, v7] ∧ Grow No I H I' H' ∧ I' a = some (.lst ws) ∧ Paired (isFc I') ws ((fs.take j).foldl slAdd (slN fs i)))
        ⟨I3, a, ws, _, _, _, _, _, rfl, g3, ha, hws⟩ (fun j σ H' _ ⟨I', _, _, _, _, _, _, _, _, g, _, _⟩ => SqL.of (g.sub _ _ (g.view _ _ hfa))) ?_ ?_
      · rintro j y σ H4 H4' hj ⟨I4, a, ws, v3, v4, v5, v6, v7, rfl, g4, ha, hws⟩ ⟨rfl, hy⟩
        obtain ⟨f, hf, b, rfl, hb⟩ := Nw.Paired.at' hfs hy
        obtain ⟨hnd, hpl⟩ := slow_mid hlt i j
        have hlen := len16 hnd hpl
        rw [fold_take hf]
        generalize (fs.take j).foldl slAdd (slN fs i) = ps at hws hnd hpl hlen
        have hflt := hlt f (List.mem_of_getElem? hf)
        have hlw := Nw.Paired.len hws
        have hb4 := g4.sub _ _ (g4.view _ _ hb)
        have hb4 : H4' b = some (.tup [.str (sg f.1), .str (sg f.2)]) := hb4
        refine ⟨b, _, rfl, SqT.of hb4, rfl, _, _, rfl, _, _, rfl, rfl, ?_⟩
        refine ⟨_, rfl, _, rfl, a, rfl, ⟨_, SqL.of (g4.sub _ _ ha)⟩, fun L hL => ?_⟩
        refine lc_pure (β := FcR) walk_list ps (fun q => if q.1 = f.2 ∧ (f.1, q.2) ∉ ps then some ⟨(f.1, q.2)⟩ else none) hlw.symm g4.sub hL (by omega) (fun I' H' g => SqL.of (g.sub _ _ (g.view _ _ ha))) ?_ ?_
        · rintro t q y I' H' H'' ht g ⟨rfl, hy⟩ Kn Ky kn ky
          obtain ⟨v', hv', c, rfl, hc⟩ := Nw.Paired.at hws ht
          rw [hy] at hv'
          cases hv'
          have hcH : H'' c = some (.tup [.str (sg q.1), .str (sg q.2)]) := g.sub _ _ (g.view _ _ hc)
          have hqm := hpl q (List.mem_of_getElem? ht)
          refine ⟨c, _, rfl, SqT.of hcH, rfl, _, _, rfl, _, _, rfl, rfl, rfl, ?_⟩
          refine ⟨_, rfl, _, rfl, rfl, _, rfl, ?_⟩
          rw [sgV_eq]
          by_cases z1 : q.1 = f.2
          · rw [decide_eq_true z1]
            refine iteT ⟨_, rfl, _, rfl, (by show 2 ≤ sizeLine; decide), fun u hu => ?_⟩
            have gu : Grow No I' H'' (upd I' u (.tup [.str (sg f.1), .str (sg q.2)])) (upd H'' u (.tup [.str (sg f.1), .str (sg q.2)])) := Grow.new g.sub hu
            refine ⟨_, rfl, dF (f.1, q.2), ps.map dF, isFc.dp (I := upd I' u (.tup [.str (sg f.1), .str (sg q.2)])) (p := (f.1, q.2)) ⟨u, rfl, upd_same⟩ gu.sub, .lst (SqL.of (gu.sub _ _ (gu.view _ _ (g.view _ _ ha)))) (fc_dps gu.sub (fc_mono hws (g.view.trans gu.view))), shaped_fc ⟨hflt.1, hqm.2⟩, shaped_fcs hpl, _, rfl, ?_⟩
            rw [any_fc]
            by_cases z2 : (f.1, q.2) ∈ ps
            · rw [decide_eq_true z2]
              exact iteF (kn (if_neg fun y => y.2 z2) _ _ gu)
            · rw [decide_eq_false z2]
              refine iteT ⟨_, rfl, _, rfl, (by show 2 ≤ sizeLine; decide), fun u2 hu2 => ?_⟩
              have gu2 : Grow No (upd I' u (.tup [.str (sg f.1), .str (sg q.2)])) (upd H'' u (.tup [.str (sg f.1), .str (sg q.2)])) _ (upd (upd H'' u (.tup [.str (sg f.1), .str (sg q.2)])) u2 (.tup [.str (sg f.1), .str (sg q.2)])) := Grow.new gu.sub hu2
              exact ky _ (if_pos ⟨z1, z2⟩) _ _ _ (gu.trans gu2) ⟨u2, rfl, upd_same⟩
          · rw [decide_eq_false z1]
            exact iteF (kn (if_neg fun y => z1 y.1) _ _ (Grow.refl g.sub))
        intro I5 H5 vs5 g5 ow5 hp5
        have z5 := fcr_paired hp5
        have hl5 := Nw.Paired.len z5
        have hl6 : ((ps.filterMap fun q => if q.1 = f.2 ∧ (f.1, q.2) ∉ ps then some (⟨(f.1, q.2)⟩ : FcR) else none).map FcR.p).length ≤ 16 := by
          rw [List.length_map]
          exact Nat.le_trans (List.length_filterMap_le _ _) hlen
        refine ⟨a, L, ws, vs5, rfl, rfl, g5.sub _ _ (g5.view _ _ ha), ow5.at_, by rw [sizeLine_eq]; omega, fun r hr => ?_⟩
        have gr : Grow No I5 H5 (upd I5 r (.lst (ws ++ vs5))) (upd H5 r (.lst (ws ++ vs5))) := Grow.new g5.sub hr
        have z6 := fc_app (fc_mono hws (g5.view.trans gr.view)) (fc_mono z5 gr.view)
        rw [fm_slAdd] at z6
        exact ⟨_, r, ws ++ vs5, _, _, _, _, _, rfl, g4.trans (g5.trans gr), upd_same, z6⟩
      · rintro σ H4 ⟨I4, a, ws, v3, v4, v5, v6, v7, rfl, g4, ha, hws⟩
        rw [List.take_of_length_le (by omega)] at hws
        exact ⟨I4, a, ws, _, _, _, _, _, _, rfl, g4, ha, hws⟩
    · rintro σ H3 ⟨I3, a, ws, v2, v3, v4, v5, v6, v7, rfl, g3, ha, hws⟩
      exact ⟨_, rfl, k (.ref a) I3 H3 g3 ⟨a, ws, rfl, ha, hws⟩⟩
end
end Nw

namespace Nw
open PySem PySem.Spec PyProof.Rows L2
/-! ### the law's look at rides; lines that keep facts -/
def lowC (c : Nat) : Nat := if low c then c else c + 32
theorem find_line {α : Type} {l0 : List Nat} {f : Nat → α} {kvs : List (Nat × V)} {I : Hp} [Rep α] (h : kvP I kvs (l0.map fun c => ⟨c, f c⟩)) {c : Nat} (hc : c ∈ l0) : ∃ v, lookT kvs c = some v ∧ Rep.is I v (f c) := by
  induction l0 generalizing kvs with
  | nil => cases hc
  | cons d l0 ih =>
    match kvs, h with
    | q :: kvs, .cons h t =>
      obtain ⟨e1, e2⟩ := h
      have e1 : q.1 = d := e1
      by_cases z : q.1 = c
      · refine ⟨q.2, ?_, ?_⟩
        · unfold lookT
          rw [List.find?_cons_of_pos (by exact decide_eq_true z)]
          rfl
        · rw [← z, e1]; exact e2
      · have hc' : c ∈ l0 := by
          rcases List.mem_cons.mp hc with y | y
          · exact absurd (e1.trans y.symm) z
          · exact y
        obtain ⟨v, h1, h2⟩ := ih t hc'
        refine ⟨v, ?_, h2⟩
        unfold lookT at h1 ⊢
        rw [List.find?_cons_of_neg (by rw [decide_eq_false z]; exact Bool.false_ne_true)]
        exact h1
theorem low_eq {c : Nat} (h : isStep c = true) : decide (V.str (sg c) = V.str (sg (lowC c))) = low c := by
  have e : decide (V.str (sg c) = V.str (sg (lowC c))) = decide (c = lowC c) := by
    by_cases z : c = lowC c
    · rw [decide_eq_true z, decide_eq_true (by rw [← z])]
    · have n1 : ¬ V.str (sg c) = V.str (sg (lowC c)) := fun y => z (List.cons.inj (mk_inj (a := [c]) (b := [lowC c]) (V.str.inj y))).1
      rw [decide_eq_false z, decide_eq_false n1]
  rw [e]
  rcases step_cases h with rfl | rfl | rfl | rfl | rfl | rfl | rfl | rfl <;> decide
def sp_l_quick (K : PySem.W.Frag) : Sp := fun vs H Q _ => ∃ (I : Hp) (v : V) (l : List Nat) (R : Nat → Rides) (x y : Nat), vs = [v, .str (sg x), .str (sg y)] ∧ isLines I v (l.map fun c => ⟨c, R c⟩) ∧ x ∈ l ∧ y ∈ l ∧ (∀ c ∈ l, (R c).length ≤ 60) ∧ Same I H ∧ ∀ I' H', Grow No I H I' H' → Q (.bl (quickB (R x) (R y))) H'
def lkR (R : Nat → Rides) (a b : Nat) : Bool := quickB (R a) (R b)
def sp_l_keeps (K : PySem.W.Frag) : Sp := fun vs H Q _ => ∃ (I : Hp) (v u : V) (l : List Nat) (R : Nat → Rides) (ps : List Fc), vs = [v, u] ∧ isLines I v (l.map fun c => ⟨c, R c⟩) ∧ (∀ c ∈ l, (R c).length ≤ 60) ∧ isFcs I u ps ∧ Same I H ∧ ∀ I' H', Grow No I H I' H' → Q (.bl (keptB l (lkR R) ps)) H'
theorem quick_step {rx ry : Rides} {i : Nat} {r : Int × Int} (hr : ry[i]? = some r) (h : ((ry.take i).all fun r => !decide (plM (endsF ry (.num r.1)).2 < plM (endsF rx (.num r.1)).2)) = true) (h2 : ¬ plM (endsF ry (.num r.1)).2 < plM (endsF rx (.num r.1)).2) : ((ry.take (i + 1)).all fun r => !decide (plM (endsF ry (.num r.1)).2 < plM (endsF rx (.num r.1)).2)) = true := by
  rw [List.take_add_one, hr]
  show (ry.take i ++ [r]).all _ = true
  rw [List.all_append, h, Bool.true_and, List.all_cons, List.all_nil, Bool.and_true, decide_eq_false h2] <;> rfl
theorem look_some {l0 : List Nat} {f : Nat → Rides} {kvs : List (Nat × V)} {I : Hp} (h : kvP I kvs (l0.map fun c => ⟨c, f c⟩)) (c : Nat) : (lookT kvs c).isSome = decide (c ∈ l0) := by
  have hk : kvs.map (·.1) = l0 := by rw [h.keys, List.map_map]; exact List.map_id' l0
  rw [← hk]
  unfold lookT
  rw [Option.isSome_map, Bool.eq_iff_iff, List.find?_isSome, decide_eq_true_iff, List.mem_map]
  exact ⟨fun ⟨q, h1, h2⟩ => ⟨q, h1, of_decide_eq_true h2⟩, fun ⟨q, h1, h2⟩ => ⟨q, h1, decide_eq_true h2⟩⟩
section
variable {P : Program} {w : World} {K : PySem.W.Frag} {mg : Str → Option Value} {base : Heap}
theorem ok_l_quick (T : Txt K mg) (F : FnAt K "_law_quick" "_law_quick" s_l_quick (He.ga K "_law_quick")) (G_l_end : Ok P w K mg base CX0 1 (He.ga K "_law_end") ["_law_rides_here", "_law_moment"] (sp_l_end K)) (G_l_place : Ok P w K mg base CX0 1 (He.ga K "_law_place") ["_law_moment"] (sp_l_place K)) : Ok P w K mg base CX0 2 (He.ga K "_law_quick") ["_law_lines_here", "_law_x", "_law_y"] (sp_l_quick K) := by
  refine ok_of F sc_l_quick (fun _ _ _ _ _ _ us hl => match us, hl with | [_, _, _], _ => rfl) (fun vs H Q E h => ?_) (fun cdv A outer s H vs Q E hr h => ?_)
  · obtain ⟨_, _, _, _, _, _, rfl, _⟩ := h
    rfl
  · obtain ⟨I, v, l, R, x, y, rfl, ⟨d, kvs, rfl, hd, hlk⟩, hx, hy, hf, sb, k⟩ := h
    refine ⟨_, (pss_cons (ps_for PassesOwn.never rfl (pi_list (pe_dget (hu_of hr) (pv 0) (pv 2) (fun _ _ => rfl))) (pg_tup (by rfl) (pgs_cons (pg_name (i := 3) sc_l_quick.nd rfl (Or.inl rfl)) (pgs_cons (pg_name (i := 4) sc_l_quick.nd rfl (Or.inl rfl)) pgs_nil))) (pss_one (ps_if (pt_cmpR op_gt (pe_callC G_l_place (hr.mono (by decide)) T.g__law_place (pa_cons (pe_callC G_l_end (hr.mono (by decide)) T.g__law_end (pa_cons (pe_dget (hu_of hr) (pv 0) (pv 1) (fun _ _ => rfl)) (pa_cons (pv 3) pa_nil))) pa_nil)) (pe_callC G_l_place (hr.mono (by decide)) T.g__law_place (pa_cons (pe_callC G_l_end (hr.mono (by decide)) T.g__law_end (pa_cons (pe_dget (hu_of hr) (pv 0) (pv 2) (fun _ _ => rfl)) (pa_cons (pv 3) pa_nil))) pa_nil)) (nomark _)) (pss_one (ps_ret pe_bl)) pss_nil)))
      (pss_one (ps_ret pe_bl))), ?_⟩
    obtain ⟨vx, hvx, ax, wx, rfl, hax, hpx⟩ := find_line hlk hx
    obtain ⟨vy, hvy, ay, wy, rfl, hay, hpy⟩ := find_line hlk hy
    have hget : ∀ {H' : Hp} {c : Nat} {u : V}, Same I H' → lookT kvs c = some u → DGet H' d (.str (sg c)) (some u) := fun {H' c u} e h => by
      have z := DGet.k (k := .inr (sg c)) (e _ _ hd)
      rw [valV_S, h] at z
      exact z
    have hfx := hf x hx
    have hfy := hf y hy
    have hly := Nw.Paired.len hpy
    refine ⟨_, rfl, _, rfl, d, _, rfl, hget sb hvy, ay, rfl, ⟨_, SqL.of (sb _ _ hay)⟩, ?_⟩
    refine for_it (walk_list (K := K) (a := ay) (xs := wy)) (fun i σ H' => ∃ (I' : Hp) (v3 v4 : Option V), σ = [some (.ref d), some (.str (sg x)), some (.str (sg y)), v3, v4] ∧ Grow No I H I' H' ∧ (((R y).take i).all fun r => !decide (plM (endsF (R y) (.num r.1)).2 < plM (endsF (R x) (.num r.1)).2)) = true)
      ⟨I, none, none, rfl, Grow.refl sb, rfl⟩ (fun i σ H' _ ⟨I', _, _, _, g, _⟩ => SqL.of (g.sub _ _ (g.view _ _ hay))) ?_ ?_
    · rintro i u σ H1 H1' hi ⟨I1, v3, v4, rfl, g1, hall⟩ ⟨rfl, hu⟩
      obtain ⟨r, hr, b, z1, z2, rfl, hb, hz1, hz2⟩ := Nw.Paired.at' hpy hu
      cases hz1
      cases hz2
      have e1 : Same I H1' := g1.view.trans g1.sub
      refine ⟨b, _, rfl, SqT.of (e1 _ _ hb), rfl, _, _, rfl, _, _, rfl, rfl, ?_⟩
      refine ⟨_, rfl, _, rfl, d, _, rfl, hget e1 hvx, _, rfl, I1, ax, wx, R x, .num r.1, rfl, g1.sub, e1 _ _ hax, Paired.mono' (fun _ _ z => Rep.mono g1.view z) hpx, by omega, fun I2 H2 g2 => ⟨_, rfl, ?_⟩⟩
      have e2 := e1.trans g2.same
      refine ⟨_, rfl, _, rfl, d, _, rfl, hget e2 hvy, _, rfl, I2, ay, wy, R y, .num r.1, rfl, g2.sub, e2 _ _ hay, Paired.mono' (fun _ _ z => Rep.mono (g1.view.trans g2.view) z) hpy, by omega, fun I3 H3 g3 => ⟨_, rfl, _, _, rfl, rfl, _, rfl, ?_⟩⟩
      have g13 := g1.trans (g2.trans g3)
      by_cases z : plM (endsF (R y) (.num r.1)).2 < plM (endsF (R x) (.num r.1)).2
      · rw [decide_eq_true z]
        have hq : quickB (R x) (R y) = false := by
          unfold quickB
          rw [List.all_eq_false]
          exact ⟨r, List.mem_of_getElem? hr, by rw [decide_eq_true z]; exact Bool.false_ne_true⟩
        rw [hq] at k
        exact iteT (k _ _ g13)
      · rw [decide_eq_false z]
        exact iteF ⟨I3, _, _, rfl, g13, quick_step hr hall z⟩
    · rintro σ H1 ⟨I1, v3, v4, rfl, g1, hall⟩
      rw [List.take_of_length_le (by omega)] at hall
      have hq : quickB (R x) (R y) = true := hall
      rw [hq] at k
      exact k _ _ g1
theorem ok_l_keeps (T : Txt K mg) (F : FnAt K "_law_keeps" "_law_keeps" s_l_keeps (He.ga K "_law_keeps")) (G_l_quick : Ok P w K mg base CX0 2 (He.ga K "_law_quick") ["_law_lines_here", "_law_x", "_law_y"] (sp_l_quick K)) : Ok P w K mg base CX0 3 (He.ga K "_law_keeps") ["_law_lines_here", "_law_slower_here"] (sp_l_keeps K) := by
  refine ok_of F sc_l_keeps (fun _ _ _ _ _ _ us hl => match us, hl with | [_, _], _ => rfl) (fun vs H Q E h => ?_) (fun cdv A outer s H vs Q E hr h => ?_)
  · obtain ⟨_, _, _, _, _, _, rfl, _⟩ := h
    rfl
  · obtain ⟨I, v, u, l, R, ps, rfl, hln, hf, ⟨a, ws, rfl, ha, hws⟩, sb, k⟩ := h
    refine ⟨_, (pss_cons (ps_for PassesOwn.never rfl (pi_list (pv 1)) (pg_tup (by rfl) (pgs_cons (pg_name (i := 2) sc_l_keeps.nd rfl (Or.inl rfl)) (pgs_cons (pg_name (i := 3) sc_l_keeps.nd rfl (Or.inl rfl)) pgs_nil))) (pss_one (ps_if (PW.pt (pw_and (pt_cmp (pc_din (hu_of hr) (pv 2) (pv 0))) (pw_and (pt_cmp (pc_din (hu_of hr) (pv 3) (pv 0))) (pw_and1 (pt_not (pt_val (pe_callC G_l_quick (hr.mono (by decide)) T.g__law_quick (pa_cons (pv 0) (pa_cons (pv 2) (pa_cons (pv 3) pa_nil)))))))))) (pss_one (ps_ret pe_bl)) pss_nil)))
      (pss_one (ps_ret pe_bl))), ?_⟩
    obtain ⟨d, kvs, rfl, hd, hlk⟩ := id hln
    have hdin : ∀ {H' : Hp} (c : Nat), Same I H' → DGet H' d (.str (sg c)) (lookT kvs c) := fun {H'} c e => by
      have z := DGet.k (k := .inr (sg c)) (e _ _ hd)
      rw [valV_S] at z
      exact z
    have hlw := Nw.Paired.len hws
    refine ⟨_, rfl, a, rfl, ⟨_, SqL.of (sb _ _ ha)⟩, ?_⟩
    refine for_it (walk_list (K := K) (a := a) (xs := ws)) (fun i σ H' => ∃ (I' : Hp) (v2 v3 : Option V), σ = [some (.ref d), some (.ref a), v2, v3] ∧ Grow No I H I' H' ∧ keptB l (lkR R) (ps.take i) = true)
      ⟨I, none, none, rfl, Grow.refl sb, rfl⟩ (fun i σ H' _ ⟨I', _, _, _, g, _⟩ => SqL.of (g.sub _ _ (g.view _ _ ha))) ?_ ?_
    · rintro i y σ H1 H1' hi ⟨I1, v2, v3, rfl, g1, hk1⟩ ⟨rfl, hy⟩
      obtain ⟨p, hp, b, rfl, hb⟩ := Nw.Paired.at' hws hy
      have e1 : Same I H1' := g1.view.trans g1.sub
      have hb1 : H1' b = some (.tup [.str (sg p.1), .str (sg p.2)]) := e1 _ _ hb
      refine ⟨b, _, rfl, SqT.of hb1, rfl, _, _, rfl, _, _, rfl, rfl, ?_⟩
      refine ⟨_, rfl, _, rfl, d, _, rfl, hdin p.1 e1, _, rfl, ?_⟩
      rw [look_some hlk]
      by_cases z1 : p.1 ∈ l
      · rw [decide_eq_true z1]
        refine iteT ⟨_, rfl, _, rfl, d, _, rfl, hdin p.2 e1, _, rfl, ?_⟩
        rw [look_some hlk]
        by_cases z2 : p.2 ∈ l
        · rw [decide_eq_true z2]
          refine iteT ⟨_, rfl, _, rfl, _, rfl, I1, .ref d, l, R, p.1, p.2, rfl, hln.up g1.view, z1, z2, hf, g1.sub, fun I2 H2 g2 => ⟨_, rfl, ?_⟩⟩
          cases hq : quickB (R p.1) (R p.2) with
          | true => exact iteF ⟨I2, _, _, rfl, g1.trans g2, kept_step hp hk1 fun _ _ => hq⟩
          | false =>
            have hkf := kept_false (q := lkR R) (List.mem_of_getElem? hp) z1 z2 hq
            rw [hkf] at k
            exact iteT (k _ _ (g1.trans g2))
        · rw [decide_eq_false z2]
          exact iteF ⟨I1, _, _, rfl, g1, kept_step hp hk1 fun _ y => absurd y z2⟩
      · rw [decide_eq_false z1]
        exact iteF ⟨I1, _, _, rfl, g1, kept_step hp hk1 fun y => absurd y z1⟩
    · rintro σ H1 ⟨I1, v2, v3, rfl, g1, hk1⟩
      rw [List.take_of_length_le (by omega)] at hk1
      rw [hk1] at k
      exact k _ _ g1
end
end Nw

namespace Nw
open PySem PySem.Spec PyProof.Rows L2
/-! ### lines that keep what follows -/
theorem Grow.unlock {T : Addr → Prop} {I H I1 H2 : Hp} {p : Addr} {od : Obj} {kvs : List (Key × V)} (sb : Same I H) (hp : I p = some (.dK kvs)) (g : Grow T (delH I p) (upd H p (.frz od (.dK kvs))) I1 H2) : Grow T I H (upd I1 p (.dK kvs)) (upd H2 p (.dK kvs)) where
  view := fun b o e => by
    by_cases q : b = p
    · subst q; rw [upd_same, ← hp, e]
    · rw [upd_ne q]; exact g.view b o (by rw [delH_ne q]; exact e)
  sub := fun b o e => by
    by_cases q : b = p
    · subst q; rw [upd_same] at e ⊢; exact e
    · rw [upd_ne q] at e ⊢; exact g.sub b o e
  keep := fun b o n e => by
    by_cases q : b = p
    · subst q; rw [upd_same, ← sb _ _ hp, e]
    · rw [upd_ne q]; exact g.keep b o n (by rw [upd_ne q]; exact e)
  live := fun b e => upd_live (g.live b (upd_live e))
  fresh := fun b e n => by
    have q : b ≠ p := fun z => by rw [z, hp] at e; cases e
    rw [upd_ne q]
    exact g.fresh b (by rw [delH_ne q]; exact e) (by rw [upd_ne q]; exact n)
  tbl := fun b ps e => by
    have z := upd_tbl (o := .dK kvs) (fun _ z => by cases z) e
    have y := g.tbl b ps z
    by_cases q : b = p
    · subst q; rw [delH_same] at y; cases y
    · rw [delH_ne q] at y; exact y
theorem lock_sub {I H : Hp} {p : Addr} {o : HO} (sb : Same I H) : Same (delH I p) (upd H p o) := fun b u e => by
  by_cases q : b = p
  · subst q; rw [delH_same] at e; cases e
  · rw [delH_ne q] at e; rw [upd_ne q]; exact sb b u e
theorem rides_del {I : Hp} {p : Addr} {kvs : List (Key × V)} (hp : I p = some (.dK kvs)) {v : V} {rs : Rides} (h : isL I v rs) : isL (delH I p) v rs := by
  obtain ⟨a, vs, rfl, ha, hq⟩ := h
  have na : a ≠ p := fun z => by rw [z, hp] at ha; cases ha
  refine ⟨a, vs, rfl, by rw [delH_ne na]; exact ha, Paired.mono' (fun v r q => ?_) hq⟩
  obtain ⟨b, v1, v2, e, hb, h1, h2⟩ := q
  have nb : b ≠ p := fun z => by rw [z, hp] at hb; cases hb
  exact ⟨b, v1, v2, e, by rw [delH_ne nb]; exact hb, h1, h2⟩
theorem lines_del {I : Hp} {p : Addr} {kvs : List (Key × V)} (hp : I p = some (.dK kvs)) {ks : List (Nat × V)} {ls : Lns} (h : kvP I ks ls) : kvP (delH I p) ks ls := Paired.mono' (fun _ _ z => ⟨z.1, rides_del hp z.2⟩) h
theorem put_old {kvs : List (Nat × V)} {c : Nat} {w : V} (h : c ∈ kvs.map (·.1)) : putK (kvs.map kvS) (.inr (sg c)) w = (kvs.map fun q => if q.1 = c then (q.1, w) else q).map kvS := by
  have key : ∀ q : Nat × V, ((kvS q).1 = (Sum.inr (sg c) : Key)) ↔ q.1 = c := fun q =>
    ⟨fun z => mk_inj (a := [q.1]) (b := [c]) (Sum.inr.inj z) |> List.cons.inj |>.1, fun z => by rw [← z]; rfl⟩
  unfold putK
  rw [if_pos]
  · rw [List.map_map, List.map_map]
    refine List.map_congr_left fun q _ => ?_
    show (if (kvS q).1 = _ then _ else _) = kvS (if q.1 = c then _ else _)
    by_cases z : q.1 = c
    · rw [if_pos z, if_pos ((key q).mpr z)]; rfl
    · rw [if_neg z, if_neg fun y => z ((key q).mp y)]
  · obtain ⟨q, hq, e⟩ := List.mem_map.mp h
    rw [List.any_eq_true]
    exact ⟨kvS q, List.mem_map.mpr ⟨q, hq, rfl⟩, decide_eq_true ((key q).mpr e)⟩
def keptR (l : List Nat) (R : Nat → Rides) (ps : List Fc) (c : Nat) : Rides := (l.filter fun o => decide ((c, o) ∈ ps)).flatMap R
def sp_l_kept (K : PySem.W.Frag) : Sp := fun vs H Q _ => ∃ (I : Hp) (v u : V) (l : List Nat) (R : Nat → Rides) (ps : List Fc), vs = [v, u] ∧ isLines I v (l.map fun c => ⟨c, R c⟩) ∧ l.Nodup ∧ l.length ≤ 4 ∧ (∀ c ∈ l, isLt c ∧ (R c).length ≤ 6) ∧ isFcs I u ps ∧ (∀ p ∈ ps, isLt p.1 ∧ isLt p.2) ∧ ps.length ≤ 16 ∧ Same I H ∧
  ∀ v' I' H', Grow No I H I' H' → isLines I' v' (l.map fun c => ⟨c, keptR l R ps c⟩) → Q v' H'
theorem pr_app {α β : Type} {F : α → β → Prop} : ∀ {ws us : List α} {fs gs : List β}, Paired F ws fs → Paired F us gs → Paired F (ws ++ us) (fs ++ gs)
  | _, _, _, _, .nil, h => h
  | _, _, _, _, .cons a t, h => .cons a (pr_app t h)
theorem keptR_len {R : Nat → Rides} : ∀ (l : List Nat), (∀ c ∈ l, (R c).length ≤ 6) → (l.flatMap R).length ≤ 6 * l.length
  | [], _ => Nat.le_refl _
  | c :: l, h => by
    rw [List.flatMap_cons, List.length_append, List.length_cons]
    have h1 := h c (List.mem_cons_self ..)
    have h2 := keptR_len l fun d hd => h d (List.mem_cons_of_mem _ hd)
    omega
theorem kept_snoc {R : Nat → Rides} {ps : List Fc} {c : Nat} {l : List Nat} {j o : Nat} (h : l[j]? = some o) : ((l.take (j + 1)).filter fun o => decide ((c, o) ∈ ps)).flatMap R = ((l.take j).filter fun o => decide ((c, o) ∈ ps)).flatMap R ++ (if (c, o) ∈ ps then R o else []) := by
  rw [List.take_add_one, h]
  show ((l.take j ++ [o]).filter _).flatMap R = _
  rw [List.filter_append, List.flatMap_append]
  congr 1
  by_cases z : (c, o) ∈ ps
  · rw [if_pos z, List.filter_cons_of_pos (by simpa using z)]
    simp
  · rw [if_neg z, List.filter_cons_of_neg (by simpa using z)]
    rfl
theorem look_last {ks : List (Nat × V)} {c : Nat} {w : V} (h : c ∉ ks.map (·.1)) : lookT (ks ++ [(c, w)]) c = some w := by
  unfold lookT
  rw [List.find?_append, List.find?_eq_none.mpr fun q hq y => h (List.mem_map.mpr ⟨q, hq, of_decide_eq_true y⟩)]
  simp
theorem old_last {ks : List (Nat × V)} {c : Nat} {w w' : V} (h : c ∉ ks.map (·.1)) : putK ((ks ++ [(c, w)]).map kvS) (.inr (sg c)) w' = (ks ++ [(c, w')]).map kvS := by
  rw [put_old (by simp), List.map_append]
  congr 2
  · refine (List.map_congr_left fun q hq => ?_).trans (List.map_id' _)
    rw [if_neg fun y => h (List.mem_map.mpr ⟨q, hq, y⟩)]
  · show [if c = c then (c, w') else (c, w)] = _
    rw [if_pos rfl]
theorem new_last {ks : List (Nat × V)} {c : Nat} {w : V} (h : c ∉ ks.map (·.1)) : putK (ks.map kvS) (.inr (sg c)) w = (ks ++ [(c, w)]).map kvS := by
  rw [List.map_append]
  refine putK_new ?_
  intro z
  obtain ⟨q, hq, e⟩ := List.mem_map.mp z
  obtain ⟨q3, hq3, rfl⟩ := List.mem_map.mp hq
  have ec : q3.1 = c := mk_inj (a := [q3.1]) (b := [c]) (Sum.inr.inj e) |> List.cons.inj |>.1
  exact h (by rw [← ec]; exact List.mem_map_of_mem hq3)
section
variable {P : Program} {w : World} {K : PySem.W.Frag} {mg : Str → Option Value} {base : Heap}
theorem ok_l_kept (T : Txt K mg) (F : FnAt K "_law_kept" "_law_kept" s_l_kept (He.ga K "_law_kept"))  : Ok P w K mg base CX0 1 (He.ga K "_law_kept") ["_law_lines_here", "_law_slower_here"] (sp_l_kept K) := by
  refine ok_of F sc_l_kept (fun _ _ _ _ _ _ us hl => match us, hl with | [_, _], _ => rfl) (fun vs H Q E h => ?_) (fun cdv A outer s H vs Q E hr h => ?_)
  · obtain ⟨_, _, _, _, _, _, rfl, _⟩ := h
    rfl
  · obtain ⟨I, v, u, l, R, ps, rfl, ⟨d, kvs, rfl, hd, hlk⟩, hnd, hl4, hR, ⟨a, ws, rfl, ha, hws⟩, hpl, hp16, sb, k⟩ := h
    refine ⟨_, (pss_cons (ps_set (i := 2) sc_l_kept.nd rfl (Or.inl rfl) pe_dnewK)
      (pss_cons (ps_lock (ps_for PassesOwn.never rfl (pi_keys (pv 0)) (pg_name (i := 3) sc_l_kept.nd rfl (Or.inl rfl)) (pss_cons (ps_dput (hu_of hr) (pv 2) (pv 3) (pe_lst pa_nil) rfl)
      (pss_one (ps_for PassesOwn.never rfl (pi_keys (pv 0)) (pg_name (i := 4) sc_l_kept.nd rfl (Or.inl rfl)) (pss_one (ps_if (pt_cmpR (op_inD (un65 hr)) (pe_tup (pa_cons (pv 3) (pa_cons (pv 4) pa_nil))) (pv 1) rfl) (pss_one (ps_dput (hu_of hr) (pv 2) (pv 3) (pe_op op_cat (pe_dget (hu_of hr) (pv 2) (pv 3) (fun _ _ => rfl)) (pe_dget (hu_of hr) (pv 0) (pv 4) (fun _ _ => rfl))) rfl)) pss_nil)))))))
      (pss_one (ps_ret (pv 2))))), ?_⟩
    have hkk : kvs.map (·.1) = l := by rw [hlk.keys, List.map_map]; exact List.map_id' l
    have hll : kvs.length = l.length := by
      have := congrArg List.length hkk
      rwa [List.length_map] at this
    refine fun D2 hD2 => ?_
    have hdH := sb _ _ hd
    have ndD : D2 ≠ d := fun z => by rw [z, hdH] at hD2; cases hD2
    have naD : a ≠ d := fun z => by rw [z, hd] at ha; cases ha
    refine ⟨d, .dK (kvs.map kvS), by rw [upd_ne (Ne.symm ndD)]; exact hdH, trivial, fun od => ?_⟩
    have comm : upd (upd H D2 (.dK [])) d (.frz od (.dK (kvs.map kvS))) = upd (upd H d (.frz od (.dK (kvs.map kvS)))) D2 (.dK []) := by
      funext b
      unfold upd
      by_cases z1 : b = d
      · rw [if_pos z1, if_neg (fun z => ndD (by rw [← z, z1])), if_pos z1]
      · rw [if_neg z1]
        by_cases z2 : b = D2
        · rw [if_pos z2, if_pos z2]
        · rw [if_neg z2, if_neg z2, if_neg z1]
    rw [comm]
    have s0 : Same (delH I d) (upd H d (.frz od (.dK (kvs.map kvS)))) := lock_sub sb
    have hfz : upd H d (.frz od (.dK (kvs.map kvS))) d = some (.frz od (.dK (kvs.map kvS))) := upd_same
    have hDx : upd H d (.frz od (.dK (kvs.map kvS))) D2 = none := by rw [upd_ne ndD]; exact hD2
    have hl0 := lines_del hd hlk
    have ha0 : delH I d a = some (.lst ws) := by unfold delH; rw [if_neg naD]; exact ha
    have hws0 : Paired (isFc (delH I d)) ws ps := Paired.mono' (fun _ _ ⟨b, e, hb⟩ => ⟨b, e, by unfold delH; rw [if_neg (fun z => by rw [z, hd] at hb; cases hb)]; exact hb⟩) hws
    have unl : ∀ {I1 H2 : Hp}, Grow No (delH I d) (upd H d (.frz od (.dK (kvs.map kvS)))) I1 H2 → Grow No I H (upd I1 d (.dK (kvs.map kvS))) (upd H2 d (.dK (kvs.map kvS))) := fun g => Grow.unlock sb hd g
    revert s0 hfz hDx hl0 ha0 hws0 unl
    generalize upd H d (.frz od (.dK (kvs.map kvS))) = Hx
    generalize hJ : delH I d = J0
    intro s0 hfz hDx hl0 ha0 hws0 unl
    have g1 : Grow No J0 Hx J0 (upd Hx D2 (.dK [])) := Grow.mine s0 hDx
    have o1 : Own No Hx D2 (.dK []) J0 (upd Hx D2 (.dK [])) := Own.new s0 (.inl (Same.refl _)) (fun _ z => z.elim) hDx
    generalize upd Hx D2 (.dK []) = H1 at g1 o1 ⊢
    refine ⟨_, rfl, d, od, rfl, .inl ⟨_, g1.keep _ _ (fun z => z) hfz, ?_⟩⟩
    refine for_it walk_keys (fun i σ H' => ∃ (I' : Hp) (ks : List (Nat × V)) (v3 v4 : Option V), σ = [some (.ref d), some (.ref a), some (.ref D2), v3, v4] ∧ Grow No J0 Hx I' H' ∧ Own No Hx D2 (.dK (ks.map kvS)) I' H' ∧ kvP I' ks ((l.take i).map fun c => ⟨c, keptR l R ps c⟩))
      ⟨J0, [], none, none, rfl, g1, o1, .nil⟩ (fun i σ H' _ ⟨_, _, _, _, _, g, _, _⟩ => g.keep _ _ (fun z => z) hfz) ?_ ?_
    · rintro i y σ H2 H2' hi ⟨I2, ks, v3, v4, rfl, g2, o2, hk2⟩ ⟨rfl, kk, vv, hkv, rfl⟩
      obtain ⟨q2, hm, hq2, rfl, rfl⟩ := mem_keys hkv
      obtain ⟨c, vc⟩ := q2
      have hc : l[i]? = some c := by rw [← hkk, List.getElem?_map, hq2] <;> rfl
      have hcl := List.mem_of_getElem? hc
      have hil : i < l.length := (List.getElem?_eq_some_iff.mp hc).1
      have hksk : ks.map (·.1) = l.take i := by rw [hk2.keys, List.map_map]; exact List.map_id' _
      have hcn : c ∉ ks.map (·.1) := fun z => by
        rw [hksk] at z
        obtain ⟨t, ht⟩ := List.getElem?_of_mem z
        have htl : t < i := by have := (List.getElem?_eq_some_iff.mp ht).1; rw [List.length_take] at this; omega
        rw [List.getElem?_take_of_lt htl] at ht
        have := (List.getElem?_inj (i := t) (j := i) (l := l) (by omega) hnd).mp (by rw [ht, hc])
        omega
      have hksl : ks.length ≤ 4 := by
        have := congrArg List.length hksk
        rw [List.length_map, List.length_take] at this
        omega
      refine ⟨(by show 0 ≤ sizeLine; decide), fun w0 hw0 => ?_⟩
      have gw : Grow No I2 H2' (upd I2 w0 (.lst [])) (upd H2' w0 (.lst [])) := Grow.new g2.sub hw0
      have o3 := o2.grow gw
      refine ⟨_, rfl, _, rfl, D2, _, rfl, DPut.k (k := .inr (sg c)) o3.at_ (by rw [List.length_map, sizeLine_eq]; omega), ?_⟩
      rw [new_last hcn]
      have o4 := o3.put (o' := .dK ((ks ++ [(c, V.ref w0)]).map kvS))
      have g4 := (g2.trans gw).put o3 (o' := .dK ((ks ++ [(c, V.ref w0)]).map kvS))
      have hw4 : isL (upd I2 w0 (.lst [])) (.ref w0) (((l.take 0).filter fun o => decide ((c, o) ∈ ps)).flatMap R) := ⟨w0, [], rfl, upd_same, .nil⟩
      have hk4 := hk2.up gw.view
      generalize upd I2 w0 (.lst []) = I4 at o4 g4 hw4 hk4
      generalize upd (upd H2' w0 (.lst [])) D2 (.dK ((ks ++ [(c, V.ref w0)]).map kvS)) = H4 at o4 g4 ⊢
      refine ⟨_, rfl, d, od, rfl, .inl ⟨_, g4.keep _ _ (fun z => z) hfz, ?_⟩⟩
      refine for_it walk_keys (fun j σ H' => ∃ (I' : Hp) (w : V) (v4 : Option V), σ = [some (.ref d), some (.ref a), some (.ref D2), some (.str (sg c)), v4] ∧ Grow No J0 Hx I' H' ∧ Own No Hx D2 (.dK ((ks ++ [(c, w)]).map kvS)) I' H' ∧ kvP I' ks ((l.take i).map fun c => ⟨c, keptR l R ps c⟩) ∧ isL I' w (((l.take j).filter fun o => decide ((c, o) ∈ ps)).flatMap R))
        ⟨I4, .ref w0, _, rfl, g4, o4, hk4, hw4⟩ (fun j σ H' _ ⟨_, _, _, _, g, _, _, _⟩ => g.keep _ _ (fun z => z) hfz) ?_ ?_
      · rintro j y σ H5 H5' hj ⟨I5, w, v4, rfl, g5, o5, hk5, hw5⟩ ⟨rfl, kk, vv, hkv, rfl⟩
        obtain ⟨q3, hm3, hq3, rfl, rfl⟩ := mem_keys hkv
        obtain ⟨o, vo⟩ := q3
        have ho : l[j]? = some o := by rw [← hkk, List.getElem?_map, hq3] <;> rfl
        have hol := List.mem_of_getElem? ho
        have hjl : j < l.length := (List.getElem?_eq_some_iff.mp ho).1
        have hclt := (hR c hcl).1
        have holt := (hR o hol).1
        refine ⟨_, rfl, _, rfl, (by show 2 ≤ sizeLine; decide), fun t ht => ?_⟩
        have gt : Grow No I5 H5' (upd I5 t (.tup [V.str (sg c), kV (Sum.inr (sg (o, vo).fst))])) (upd H5' t (.tup [V.str (sg c), kV (Sum.inr (sg (o, vo).fst))])) := Grow.new g5.sub ht
        have g6 := g5.trans gt
        have v6 := g6.view
        refine ⟨_, rfl, dF (c, o), ps.map dF, isFc.dp (I := upd I5 t (.tup [V.str (sg c), kV (Sum.inr (sg (o, vo).fst))])) (p := (c, o)) ⟨t, rfl, upd_same⟩ gt.sub, .lst (SqL.of (gt.sub _ _ (v6 _ _ ha0))) (fc_dps gt.sub (fc_mono hws0 v6)), shaped_fc ⟨hclt, holt⟩, shaped_fcs hpl, _, rfl, ?_⟩
        rw [any_fc]
        have o6 := o5.grow gt
        have hk6 := hk5.up gt.view
        have hw6 := isL.up hw5 gt.view
        generalize upd I5 t (.tup [V.str (sg c), kV (Sum.inr (sg (o, vo).fst))]) = I6 at g6 v6 o6 hk6 hw6
        generalize upd H5' t (.tup [V.str (sg c), kV (Sum.inr (sg (o, vo).fst))]) = H6 at g6 o6 ⊢
        by_cases z : (c, o) ∈ ps
        · rw [decide_eq_true z]
          have hlen : (((l.take j).filter fun o => decide ((c, o) ∈ ps)).flatMap R).length ≤ 24 := by
            refine Nat.le_trans (keptR_len _ fun x hx => (hR x (List.mem_of_mem_take (List.mem_filter.mp hx).1)).2) ?_
            have h1 := List.length_filter_le (fun o => decide ((c, o) ∈ ps)) (l.take j)
            have h2 : (l.take j).length ≤ 4 := by rw [List.length_take]; omega
            omega
          obtain ⟨wa, wus, rfl, hwa, hwp⟩ := id hw6
          obtain ⟨vo', hvo', oa, ous, rfl, hoa, hop⟩ := find_line hl0 hol
          have hlw := Nw.Paired.len hwp
          have hlo := Nw.Paired.len hop
          have hro := (hR o hol).2
          have hget1 : DGet H6 D2 (.str (sg c)) (some (.ref wa)) := by
            have z := DGet.k (k := .inr (sg c)) o6.at_
            rw [valV_S, look_last hcn] at z
            exact z
          have hget2 : DGet H6 d (.str (sg o)) (some (.ref oa)) := .inl ⟨_, .inr (sg o), .inr ⟨_, g6.keep _ _ (fun z => z) hfz⟩, rfl, by rw [← hvo']; exact (valV_S o kvs).symm⟩
          refine iteT ⟨_, rfl, _, rfl, D2, _, rfl, hget1, _, rfl, _, rfl, d, _, rfl, hget2, wa, oa, wus, ous, rfl, rfl, g6.sub _ _ hwa, g6.sub _ _ (v6 _ _ hoa), by rw [sizeLine_eq]; omega, fun r hr => ?_⟩
          have gr : Grow No I6 H6 (upd I6 r (.lst (wus ++ ous))) (upd H6 r (.lst (wus ++ ous))) := Grow.new g6.sub hr
          have o7 := o6.grow gr
          refine ⟨_, rfl, _, rfl, D2, _, rfl, DPut.k (k := .inr (sg c)) o7.at_ (by rw [List.length_map, List.length_append, sizeLine_eq]; show ks.length + 1 < _; omega), ?_⟩
          rw [old_last hcn]
          refine ⟨_, .ref r, _, rfl, (g6.trans gr).put o7, o7.put, hk6.up gr.view, ?_⟩
          rw [kept_snoc ho, if_pos z]
          exact ⟨r, wus ++ ous, rfl, upd_same, pr_app (Paired.mono' (fun _ _ z => Rep.mono gr.view z) hwp) (Paired.mono' (fun _ _ z => Rep.mono (v6.trans gr.view) z) hop)⟩
        · rw [decide_eq_false z]
          refine iteF ⟨_, w, _, rfl, g6, o6, hk6, ?_⟩
          rw [kept_snoc ho, if_neg z, List.append_nil]
          exact hw6
      · rintro σ H5 ⟨I5, w, v4, rfl, g5, o5, hk5, hw5⟩
        rw [List.length_map, hll, List.take_of_length_le (Nat.le_refl _)] at hw5
        refine ⟨I5, ks ++ [(c, w)], _, _, rfl, g5, o5, ?_⟩
        rw [List.take_add_one, hc]
        show kvP I5 _ ((l.take i ++ [c]).map _)
        rw [List.map_append]
        exact Paired.snoc hk5 ⟨rfl, hw5⟩
    · rintro σ H2 ⟨I2, ks, v3, v4, rfl, g2, o2, hk2⟩
      rw [List.length_map, hll, List.take_of_length_le (Nat.le_refl _)] at hk2
      refine ⟨g2.keep _ _ (fun z => z) hfz, _, rfl, ?_⟩
      have g3 := g2.give o2
      have g4 := unl g3
      have e : upd H2 d (.dK (kvs.map kvS)) = upd H2 d (.dK (kvs.map kvS)) := rfl
      have idn : I2 d = none := g2.fresh d (by rw [← hJ]; exact delH_same) (by rw [hfz]; exact fun z => nomatch z)
      have ndn : upd I2 D2 (.dK (ks.map kvS)) d = none := by rw [upd_ne (Ne.symm ndD)]; exact idn
      refine k (.ref D2) _ _ g4 ⟨D2, ks, rfl, ?_, ?_⟩
      · rw [upd_ne ndD]
        exact upd_same
      · exact (hk2.up (Same.up o2.ni)).up (Same.up ndn)
end
end Nw

namespace Nw
open PySem PySem.Spec PyProof.Rows L2
/-! ### for the law -/
theorem look4 {α : Type} (a b d e : Option α) : lookT (([(97, a), (98, b), (99, d), (100, e)] : List (Nat × Option α)).filterMap fun q => q.2.map fun r => (q.1, r)) 97 = a ∧ lookT (([(97, a), (98, b), (99, d), (100, e)] : List (Nat × Option α)).filterMap fun q => q.2.map fun r => (q.1, r)) 98 = b ∧
    lookT (([(97, a), (98, b), (99, d), (100, e)] : List (Nat × Option α)).filterMap fun q => q.2.map fun r => (q.1, r)) 99 = d ∧ lookT (([(97, a), (98, b), (99, d), (100, e)] : List (Nat × Option α)).filterMap fun q => q.2.map fun r => (q.1, r)) 100 = e := by
  cases a <;> cases b <;> cases d <;> cases e <;> exact ⟨rfl, rfl, rfl, rfl⟩
theorem look_order {α : Type} (tb : List (Nat × α)) {c : Nat} (hc : 97 ≤ c ∧ c ≤ 100) : lookT (orderT tb) c = lookT tb c := by
  have e : orderT tb = ([(97, lookT tb 97), (98, lookT tb 98), (99, lookT tb 99), (100, lookT tb 100)] : List (Nat × Option α)).filterMap fun q => q.2.map fun r => (q.1, r) := by
    unfold orderT linksL
    simp only [List.filterMap_cons, List.filterMap_nil]
  have h4 : c = 97 ∨ c = 98 ∨ c = 99 ∨ c = 100 := by omega
  rw [e]
  obtain ⟨h1, h2, h3, h5⟩ := look4 (lookT tb 97) (lookT tb 98) (lookT tb 99) (lookT tb 100)
  rcases h4 with rfl | rfl | rfl | rfl <;> assumption
theorem order_mem {α : Type} {tb : List (Nat × α)} {p : Nat × α} (h : p ∈ orderT tb) : p ∈ tb := by
  obtain ⟨c, _, hz⟩ := List.mem_filterMap.mp h
  unfold lookT at hz
  cases e : tb.find? fun p => decide (p.1 = c) with
  | none => rw [e] at hz; cases hz
  | some q =>
    rw [e] at hz
    cases hz
    have h1 := List.find?_some e
    have h2 := List.mem_of_find?_eq_some e
    have h3 : q.1 = c := of_decide_eq_true h1
    rw [← h3]
    exact h2
theorem make_link {K : PySem.W.Frag} {I H : Hp} {v : V} {rs : Rides} {Q : Addr → VK} (sub : Same I H) (hv : isL I v rs) (h60 : rs.length ≤ 60) (hr : ∀ r ∈ rs, r.1 ≤ r.2) (k : ∀ x ns J H', Grow No I H J H' → isLink K J (.ref x) ns → IsNeeded rs ns → Q x .non H') :
    ∀ x dx, H x = none → H dx = none → dx ≠ x → sp_Link__init K [.ref x, v] (upd (upd H dx (.own x)) x (.ins (He.ga K "Link") dx [])) (Q x) E0 := by
  intro x dx hx hdx ne
  refine ⟨I, false, x, dx, v, rs, rfl, upd_same, sub.free hx, hv, h60, hr, (grow_made (T := No) sub hx hdx ne).sub, fun ns t I2 H2 g2 h2 hu hn => ?_⟩
  obtain ⟨g, n2⟩ := Grow.make (T := No) (o := .ins (He.ga K "Link") dx [("own_rides", t)]) (Grow.refl sub) hx hdx ne g2 (fun b z => .inr (by rw [show b = x from z]; exact hx)) h2
  exact k x ns _ _ g ⟨x, dx, t, rfl, upd_same, hu.up (Same.up n2)⟩ hn
theorem make_table {K : PySem.W.Frag} {I H : Hp} {p : Addr} {kvs : List (Nat × V)} {xs : List (KvP (Lk K))} {Q : Addr → VK} (sub : Same I H) (hp : H p = none) (hlk : kvP I kvs xs) (hne : xs ≠ []) (h4 : xs.length ≤ 4) (h97 : ∀ x ∈ xs, 97 ≤ x.c ∧ x.c ≤ 100)
    (k : ∀ x J H', Grow No I H J H' → isTable K J (.ref x) (orderT (xs.map fun x => (x.c, x.x.ns))) → Q x .non H') :
    ∀ x dx, upd H p (.dK (kvs.map kvS)) x = none → upd H p (.dK (kvs.map kvS)) dx = none → dx ≠ x → sp_Timetable__init K [.ref x, .ref p] (upd (upd (upd H p (.dK (kvs.map kvS))) dx (.own x)) x (.ins (He.ga K "Timetable") dx [])) (Q x) E0 := by
  intro x dx hx hdx ne
  have gd : Grow No I H I (upd H p (.dK (kvs.map kvS))) := Grow.mine sub hp
  have ip : I p = none := sub.free hp
  have px : p ≠ x := fun z => by rw [← z, upd_same] at hx; exact nomatch hx
  have pdx : p ≠ dx := fun z => by rw [← z, upd_same] at hdx; exact nomatch hdx
  have hkk := hlk.keys
  have hkl : kvs.length = xs.length := by have := congrArg List.length hkk; rwa [List.length_map, List.length_map] at this
  refine ⟨I, x, dx, p, kvs, xs.map fun x => (x.c, x.x.ns), rfl, upd_same, by rw [upd_ne px, upd_ne pdx, upd_same], gd.sub.free hx, ip, hlk.links, ?_, by omega, ?_, (grow_made (T := No) gd.sub hx hdx ne).sub, fun dd kvs2 I2 H2 g2 h2 hd2 hl2 => ?_⟩
  · intro z
    rw [z] at hkl
    exact hne (List.length_eq_zero_iff.mp hkl.symm)
  · intro q hq
    have hm : q.1 ∈ xs.map (·.c) := by rw [← hkk]; exact List.mem_map_of_mem hq
    obtain ⟨y, hy, e⟩ := List.mem_map.mp hm
    have z := h97 y hy
    rw [e] at z
    have q3 : q.1 = 97 ∨ q.1 = 98 ∨ q.1 = 99 ∨ q.1 = 100 := by omega
    rcases q3 with e | e | e | e <;> rw [e] <;> decide
  obtain ⟨g, n2⟩ := Grow.make (T := No) (o := .ins (He.ga K "Timetable") dx [("own_links", .ref dd)]) gd hx hdx ne g2 (fun b z => .inr (by rcases z with e | e <;> subst e; exact live_none gd hx; exact hp)) h2
  exact k x _ _ g ⟨x, dx, dd, kvs2, rfl, upd_same, Same.up n2 _ _ hd2, hl2.up (Same.up n2)⟩
def all12 : List Fc := all16.filter fun p => decide (p.1 ≠ p.2)
theorem len12 {ps : List Fc} (n : ps.Nodup) (h : ∀ p ∈ ps, okFc p) : ps.length ≤ 12 :=
  nodup_len ps all12 n fun p hp => List.mem_filter.mpr ⟨List.mem_flatMap.mpr ⟨p.1, abcd_mem.mpr (h p hp).1, List.mem_map.mpr ⟨p.2, abcd_mem.mpr (h p hp).2.1, rfl⟩⟩, by simpa using (h p hp).2.2⟩
theorem chain_ok {fs gs : List Fc} (hf : okFs fs) (h : isChain fs gs) : okFs gs := by
  have ok : ∀ p ∈ gs, okFc p := fun p hp => by
    obtain ⟨h1, h2⟩ := (h.2.1 p).mp hp
    have := never_lt hf.lt p h1
    exact ⟨this.1, this.2, h2⟩
  exact ⟨ok, len12 h.1 ok⟩
theorem chain_one {fs gs hs : List Fc} (hf : okFs fs) (h1 : isChain fs gs) (h2 : isChain fs hs) : gs = hs :=
  sort_one gs hs (chain_ok hf h1).lt h1.2.2 h2.2.2 h1.1 h2.1 fun p => by rw [h1.2.1, h2.2.1]
theorem chain_again {fs gs hs : List Fc} (hf : okFs fs) (h1 : isChain fs gs) (h2 : isChain gs hs) : isChain fs hs :=
  ⟨h2.1, fun p => by rw [h2.2.1, never_again hf.lt h1.2.1], h2.2.2⟩
theorem kept_chain {fs gs : List Fc} {l : List Nat} {q : Nat → Nat → Bool} (hf : okFs fs) (h1 : isChain fs gs) : keptB l q (never gs) = keptB l q (never fs) :=
  kept_same (fun _ _ _ _ => rfl) fun p => never_again hf.lt h1.2.1 p
theorem slow_chain {fs hs : List Fc} (hf : okFs fs) (hn : hs.Nodup) (hm : ∀ p, p ∈ hs ↔ p ∈ slow fs ∧ p.1 ≠ p.2) (hs' : sortedS (hs.map txF) = true) : isChain fs hs :=
  ⟨hn, fun p => by rw [hm, never_slow hf.lt], sort_key (fun q hq => never_lt hf.lt q ((never_slow hf.lt q).mpr ((hm q).mp hq).1)) hs'⟩
theorem slow_lt {fs : List Fc} (hf : ∀ p ∈ fs, isLt p.1 ∧ isLt p.2) : ∀ p ∈ slow fs, isLt p.1 ∧ isLt p.2 := (slow_mid hf 4 0).2
theorem sg_sh {c : Nat} (h : isLt c) : (PyData.str (sg c)).showable = true ∧ rm (.str (sg c)) ≤ 100 := by
  unfold isLt at h
  have : c = 97 ∨ c = 98 ∨ c = 99 ∨ c = 100 := by omega
  rcases this with rfl | rfl | rfl | rfl <;> exact ⟨by decide +kernel, by decide +kernel⟩
theorem fc_sh {p : Fc} (h : isLt p.1 ∧ isLt p.2) : (dF p).showable = true ∧ (dF p).depth ≤ 1 ∧ rm (dF p) ≤ 1000 := by
  obtain ⟨a1, a2⟩ := sg_sh h.1
  obtain ⟨b1, b2⟩ := sg_sh h.2
  refine ⟨?_, ?_, ?_⟩
  · simp only [dF, PyData.showableAll, PyData.showable.eq_6, PyData.showable] at a1 b1 ⊢
    simp only [a1, b1, Bool.and_self]
  · simp only [dF, PyData.depth, PyData.depthAll]; omega
  · simp only [dF, rm, rmAll] at a2 b2 ⊢; omega
theorem fcs_sh : ∀ {fs : List Fc}, (∀ p ∈ fs, isLt p.1 ∧ isLt p.2) → PyData.showableAll (fs.map dF) = true ∧ rmAll (fs.map dF) ≤ fs.length * 1010
  | [], _ => ⟨rfl, Nat.zero_le _⟩
  | p :: fs, h => by
    obtain ⟨h1, h2⟩ := fcs_sh (fs := fs) fun q hq => h q (List.mem_cons_of_mem _ hq)
    obtain ⟨k1, _, k3⟩ := fc_sh (h p (List.mem_cons_self ..))
    refine ⟨?_, ?_⟩
    · show ((dF p).showable && PyData.showableAll (fs.map dF)) = true
      rw [k1, h1] <;> rfl
    · rw [List.map_cons, List.length_cons]
      simp only [rmAll]
      omega
theorem shows_fcs {fs : List Fc} (h : ∀ p ∈ fs, isLt p.1 ∧ isLt p.2) (hl : fs.length ≤ 16) : Shows (.list (fs.map dF)) := by
  obtain ⟨h1, h2⟩ := lay_fcs h
  obtain ⟨h3, h4⟩ := fcs_sh h
  refine ⟨?_, ?_, ?_, ?_⟩
  · simp only [PyData.canLay0, h1]
  · simp only [PyData.showable, h3]
  · simp only [PyData.depth]; omega
  · simp only [rm]
    rw [sizeLine_eq]
    omega
theorem repr_fcs {K : PySem.W.Frag} {I H : Hp} {a : Addr} {ws : List V} {fs : List Fc} {Q : VK} (ha : H a = some (.lst ws)) (hp : Paired (isFc I) ws fs) (sb : Same I H) (h : ∀ p ∈ fs, isLt p.1 ∧ isLt p.2) (hl : fs.length ≤ 16) (k : Q (.str (PyData.list (fs.map dF)).shown) H) : rReprE K [.ref a] H Q := by
  have s := shows_fcs h hl
  exact .inl ⟨_, .list (fs.map dF), rfl, .lst (SqL.of ha) (fc_dps sb hp), s.sh, s.nd, s.deep, s.len, k⟩
theorem repr_fcsN {K : PySem.W.Frag} {I H : Hp} {a : Addr} {ws : List V} {fs : List Fc} {σ : L2.St} {Q : VK} (ha : H a = some (.lst ws)) (hp : Paired (isFc I) ws fs) (sb : Same I H) (h : ∀ p ∈ fs, isLt p.1 ∧ isLt p.2) (hl : fs.length ≤ 16) (k : Q (.str (PyData.list (fs.map dF)).shown) H) : tNil σ H fun ys H2 => rReprE K (V.ref a :: ys) H2 Q := repr_fcs ha hp sb h hl k
theorem repr_bl {K : PySem.W.Frag} {H : Hp} {b : Bool} {Q : VK} (k : Q (.str (PyData.bool b).shown) H) : rReprE K [.bl b] H Q := by
  have s : Shows (.bool b) := by cases b <;> exact ⟨by decide +kernel, by decide +kernel, by decide +kernel, by decide +kernel⟩
  exact .inl ⟨_, .bool b, rfl, .bl b, s.sh, s.nd, s.deep, s.len, k⟩
theorem repr_blN {K : PySem.W.Frag} {H : Hp} {b : Bool} {σ : L2.St} {Q : VK} (k : Q (.str (PyData.bool b).shown) H) : tNil σ H fun ys H2 => rReprE K (V.bl b :: ys) H2 Q := repr_bl k
theorem neD_fcs {K : PySem.W.Frag} {I1 I2 H : Hp} {a b : Addr} {ws us : List V} {fs : List Fc} {Q : VK} (ha : H a = some (.lst ws)) (hb : H b = some (.lst us)) (h1 : Paired (isFc I1) ws fs) (h2 : Paired (isFc I2) us fs) (s1 : Same I1 H) (s2 : Same I2 H) (h : ∀ p ∈ fs, isLt p.1 ∧ isLt p.2) (k : Q (.bl false) H) : rNeD K (.ref a) (.ref b) H Q := by
  refine ⟨.list (fs.map dF), .list (fs.map dF), .lst (SqL.of ha) (fc_dps s1 h1), .lst (SqL.of hb) (fc_dps s2 h2), shaped_fcs h, shaped_fcs h, ?_⟩
  rw [SeqAt.eqv_refl _ (by simp only [PyData.canLay0]; exact (lay_fcs h).1)]
  exact k
theorem no_x (fs : List Fc) : ((fs.map dF).any fun z => PyData.eqv z (.str "x")) = false := by
  rw [List.any_eq_false]
  intro z hz
  obtain ⟨p, _, rfl⟩ := List.mem_map.mp hz
  exact Bool.false_ne_true
/-! lines, and the timetable of them -/
theorem lines_fun : ∀ (ls : Lns), (ls.map (·.c)).Nodup → ∃ R : Nat → Rides, ls = (ls.map (·.c)).map (fun c => ⟨c, R c⟩) ∧ ∀ c ∈ ls.map (·.c), ∃ p ∈ ls, R c = p.x
  | [], _ => ⟨fun _ => [], rfl, fun _ h => nomatch h⟩
  | p :: ls, n => by
    obtain ⟨n1, n2⟩ := List.nodup_cons.mp n
    obtain ⟨R, h1, h2⟩ := lines_fun ls n2
    refine ⟨fun c => if c = p.c then p.x else R c, ?_, fun c hc => ?_⟩
    · rw [List.map_cons, List.map_cons]
      congr 1
      · show p = ⟨p.c, if p.c = p.c then p.x else R p.c⟩
        rw [if_pos rfl]
      · refine h1.trans (List.map_congr_left fun c hc => ?_)
        show (⟨c, R c⟩ : KvP Rides) = ⟨c, if c = p.c then p.x else R c⟩
        rw [if_neg fun (z : c = p.c) => n1 (by show p.c ∈ _; rw [← z]; exact hc)]
    · by_cases z : c = p.c
      · exact ⟨p, List.mem_cons_self .., if_pos z⟩
      · rcases List.mem_cons.mp hc with hc | hc
        · exact absurd hc z
        · obtain ⟨q, hq, e⟩ := h2 c hc
          exact ⟨q, List.mem_cons_of_mem _ hq, (if_neg z).trans e⟩
theorem order_keys {α : Type} (tb : List (Nat × α)) : ((orderT tb).map (·.1)).Nodup ∧ (orderT tb).length ≤ 4 := by
  have h : ((orderT tb).map (·.1)).Sublist linksL := by
    unfold orderT
    rw [← List.filterMap_eq_map, List.filterMap_filterMap]
    have e : ∀ l : List Nat, (l.filterMap fun c => ((lookT tb c).map fun r => (c, r)).bind (some ∘ (·.1))) = l.filter fun c => (lookT tb c).isSome := fun l => by
      induction l with
      | nil => rfl
      | cons c l ih =>
        cases z : lookT tb c with
        | none => rw [List.filterMap_cons_none (by rw [z]; rfl), List.filter_cons_of_neg (by rw [z]; exact Bool.false_ne_true), ih]
        | some r => rw [List.filterMap_cons_some (by rw [z]; rfl), List.filter_cons_of_pos (by rw [z]; rfl), ih]
    rw [e]
    exact List.filter_sublist
  refine ⟨(by decide : linksL.Nodup).sublist h, ?_⟩
  have := h.length_le
  rw [List.length_map] at this
  exact this
theorem kept_keys {l l' : List Nat} {q q' : Nat → Nat → Bool} {ps ps' : List Fc} (hl : ∀ c, c ∈ l ↔ c ∈ l') (hq : ∀ a ∈ l, ∀ b ∈ l, q a b = q' a b) (h : ∀ p, p ∈ ps ↔ p ∈ ps') : keptB l q ps = keptB l' q' ps' := by
  rw [kept_same hq h]
  unfold keptB
  congr 1
  funext p
  have e : ∀ c, decide (c ∈ l) = decide (c ∈ l') := fun c => by
    rw [Bool.eq_iff_iff, decide_eq_true_iff, decide_eq_true_iff]
    exact hl c
  rw [e, e]
end Nw

namespace Nw
open PySem PySem.Spec PyProof.Rows L2
/-! ### the law -/
def sp_law (K : PySem.W.Frag) : Sp := fun vs H Q _ => ∃ (I : Hp) (a : Addr) (ns : List Int), vs = [.ref a] ∧ Same I H ∧ SqL K I a (ns.map V.int) ∧ ns.length ≤ 63 ∧ ∀ H', Q (.bl true) H'
theorem fm_filterR (ps : List Fc) : (ps.filterMap fun p => if p.1 ≠ p.2 then some (⟨p⟩ : FcR) else none).map FcR.p = ps.filter fun p => decide (p.1 ≠ p.2) := by
  induction ps with
  | nil => rfl
  | cons p ps ih =>
    by_cases z : p.1 = p.2
    · rw [List.filterMap_cons_none (by rw [if_neg (fun y => y z)]), List.filter_cons_of_neg (by simpa using z), ih]
    · rw [List.filterMap_cons_some (by rw [if_pos z]), List.filter_cons_of_pos (by simpa using z), List.map_cons, ih]
theorem cut_dropL (xs : List V) (k : Nat) (h : k ≤ xs.length) : cutV xs (some (k : Int)) none = xs.drop k := by
  have e1 : HT.sIx xs.length 0 (some (k : Int)) = k := by
    unfold HT.sIx
    simp only
    split <;> omega
  have e2 : HT.sIx xs.length xs.length none = xs.length := rfl
  unfold cutV
  rw [e1, e2]
  apply List.take_of_length_le
  rw [List.length_drop]
  exact Nat.le_refl _
theorem IsNeeded.few {rs ns : Rides} (h : IsNeeded rs ns) : ns.length ≤ rs.length := by
  have nd : ns.Nodup := h.asc.imp fun {a b} hab e => by rw [e] at hab; omega
  exact List.Nodup.length_le_of_subset nd h.sub
theorem find_key2 {α : Type} {q : Nat × α} : ∀ {ks : List (Nat × α)}, (ks.map (·.1)).Nodup → q ∈ ks → ks.find? (fun p => decide (p.1 = q.1)) = some q
  | [], _, h => nomatch h
  | a :: t, nd, h => by
    obtain ⟨n1, n2⟩ := List.nodup_cons.mp (show (a.1 :: t.map (·.1)).Nodup from nd)
    rcases List.mem_cons.mp h with rfl | hm
    · simp
    · have ne : ¬ a.1 = q.1 := fun z => n1 (by rw [z]; exact List.mem_map_of_mem hm)
      rw [List.find?_cons_of_neg (by simpa using ne)]
      exact find_key2 n2 hm
theorem pr_drop1 {α β : Type} {F : α → β → Prop} : ∀ {xs : List α} {ys : List β}, Paired F xs ys → Paired F (xs.drop 1) (ys.drop 1)
  | _, _, .nil => .nil
  | _, _, .cons _ t => t
theorem look_in {α : Type} {tb : List (Nat × α)} {c : Nat} {x : α} (h : lookT tb c = some x) : (c, x) ∈ tb := by
  unfold lookT at h
  cases e : tb.find? fun p => decide (p.1 = c) with
  | none => rw [e] at h; cases h
  | some p =>
    rw [e] at h
    have h1 := List.mem_of_find?_eq_some e
    have h2 : p.1 = c := of_decide_eq_true (p := p.1 = c) (List.find?_some (p := fun p : Nat × α => decide (p.1 = c)) e)
    cases h
    rw [← h2]
    exact h1
theorem cut1 (xs : List V) : cutV xs (some 1) none = xs.drop 1 := by
  cases xs with
  | nil => rfl
  | cons x xs => exact cut_dropL (x :: xs) 1 (by simp)
theorem keptR_ok {l : List Nat} {R : Nat → Rides} {ps : List Fc} (hl4 : l.length ≤ 4) (hR : ∀ c ∈ l, goodR 6 (R c)) : ∀ c ∈ l, (keptR l R ps c).length ≤ 60 ∧ ∀ r ∈ keptR l R ps c, r.1 ≤ r.2 ∧ r.2.natAbs ≤ 10 ^ 40 := by
  intro c _
  refine ⟨?_, fun r hr => ?_⟩
  · have h1 := keptR_len (R := R) (l.filter fun o => decide ((c, o) ∈ ps)) fun o ho => (hR o (List.mem_filter.mp ho).1).1
    have h2 := List.length_filter_le (fun o => decide ((c, o) ∈ ps)) l
    unfold keptR
    omega
  · obtain ⟨o, ho, h⟩ := List.mem_flatMap.mp hr
    have hg := (hR o (List.mem_filter.mp ho).1).2 r h
    exact ⟨hg.1, by have := hg.2.2; omega⟩
section
variable {P : Program} {w : World} {K : PySem.W.Frag} {mg : Str → Option Value} {base : Heap}
theorem ok_law (T : Txt K mg) {fd : FuncData} (F : FunD K "law" "law" (defArgs s_law) (defBody s_law) (defScope s_law) [] [] (He.ga K "law") fd) (G_l_begun : Ok P w K mg base CX0 1 (He.ga K "_law_begun") ["_law_script"] (sp_l_begun K)) (G_l_next : Ok P w K mg base CX0 1 (He.ga K "_law_next") ["_law_draw", "_law_many"] (sp_l_next K)) (G_l_pick : Ok P w K mg base CX0 2 (He.ga K "_law_pick") ["_law_draw", "_law_some_here"] (sp_l_pick K)) (G_l_some : Ok P w K mg base CX0 3 (He.ga K "_law_some") ["_law_draw", "_law_many"] (sp_l_some K)) (G_l_facts : Ok P w K mg base CX0 3 (He.ga K "_law_facts") ["_law_draw", "_law_letters", "_law_many"] (sp_l_facts K)) (G_l_slower : Ok P w K mg base CX0 1 (He.ga K "_law_slower") ["_law_facts_here"] (sp_l_slower K)) (G_chain : Ok P w K mg base CX0 4 (He.ga K "chain") ["facts"] (sp_chain K)) (G_l_lines : Ok P w K mg base CX0 3 (He.ga K "_law_lines") ["_law_draw", "_law_letters", "_law_many", "_law_wide"] (sp_l_lines K)) (G_l_kept : Ok P w K mg base CX0 1 (He.ga K "_law_kept") ["_law_lines_here", "_law_slower_here"] (sp_l_kept K)) (G_l_keeps : Ok P w K mg base CX0 3 (He.ga K "_law_keeps") ["_law_lines_here", "_law_slower_here"] (sp_l_keeps K)) (G_keeps : Ok P w K mg base CX0 5 (He.ga K "keeps") ["table", "facts"] (sp_keeps K)) (G_Link__init : Ok P w K mg base CX0 3 (He.ma K (He.ga K "Link") "__init__") ["self", "rides"] (sp_Link__init K)) (G_Timetable__init : Ok P w K mg base CX0 1 (He.ma K (He.ga K "Timetable") "__init__") ["self", "links"] (sp_Timetable__init K)) : FnG P w K mg base CX0 8 (He.ga K "law") fd ["_law_script"] (sp_law K) := by
  refine fng_of F sc_law (fun vs H Q E h => ?_) (fun cdv A outer s H vs Q E hr hgd h => ?_)
  · obtain ⟨_, _, _, rfl, _⟩ := h
    rfl
  · obtain ⟨I, a, ns, rfl, sb, hS, hl, k⟩ := h
    refine ⟨_, (pss_cons (ps_set (i := 1) sc_law.nd rfl (Or.inl rfl) (pe_callC G_l_begun (hr.mono (by decide)) T.g__law_begun (pa_cons (pv 0) pa_nil)))
      (pss_cons (ps_for PassesOwn.never rfl (pi_range1 rfl T.b_range (pa_cons (pe_op op_add pe_int (pe_callB (call_min2 rfl) (by rfl) T.b_min (by decide +kernel) (pa_cons (pe_callB call_len_seq (by rfl) T.b_len (by decide +kernel) (pa_cons (pv 0) pa_nil)) (pa_cons pe_int pa_nil)))) pa_nil)) (pg_name (i := 2) sc_law.nd rfl (Or.inl rfl)) (pss_cons (ps_set (i := 3) sc_law.nd rfl (Or.inl rfl) (pe_callC G_l_facts (hr.mono (by decide)) T.g__law_facts (pa_cons (pv 1) (pa_cons (pe_callC G_l_some (hr.mono (by decide)) T.g__law_some (pa_cons (pv 1) (pa_cons pe_int pa_nil))) (pa_cons (pe_callC G_l_pick (hr.mono (by decide)) T.g__law_pick (pa_cons (pv 1) (pa_cons (pe_lst (pa_cons pe_int (pa_cons pe_int (pa_cons pe_int (pa_cons pe_int pa_nil))))) pa_nil))) pa_nil)))))
      (pss_cons (ps_set (i := 4) sc_law.nd rfl (Or.inl rfl) (pe_callC G_l_slower (hr.mono (by decide)) T.g__law_slower (pa_cons (pv 3) pa_nil)))
      (pss_cons (ps_setLc (i := 5) (own := [("_law_x", 15), ("_law_y", 16)]) (g := (gTup K 2 (gCons (gName 15) (gCons (gName 16) gNil)))) rfl sc_law.nd rfl rfl (sw_true rfl rfl rfl (by decide +kernel)) (pi_list (pv 4)) (blkOk_by (own := [("_law_x", 15), ("_law_y", 16)]) (N := n_law) (sc := defScope s_law) (by decide +kernel)) (fun _ _ _ _ _ => (pg_tup (by rfl) (pgs_cons (pg_name (i := 15) sc_law.nd rfl (Or.inl rfl)) (pgs_cons (pg_name (i := 16) sc_law.nd rfl (Or.inl rfl)) pgs_nil)))) (fun _ _ _ _ _ => (pts_one (pt_cmpR op_ne (pv 15) (pv 16) (nomark _)))) (fun _ _ _ _ _ => (pe_tup (pa_cons (pv 15) (pa_cons (pv 16) pa_nil)))))
      (pss_cons (ps_set (i := 6) sc_law.nd rfl (Or.inl rfl) (pe_callB cr_sortedS (by rfl) T.b_sorted (by decide +kernel) (pa_cons (pe_lc (own := [("_law_x", 15), ("_law_y", 16)]) (g := (gTup K 2 (gCons (gName 15) (gCons (gName 16) gNil)))) rfl sc_law.nd (pi_list (pv 5)) (blkOk_by (own := [("_law_x", 15), ("_law_y", 16)]) (N := n_law) (sc := defScope s_law) (by decide +kernel)) (fun _ _ _ _ _ => (pg_tup (by rfl) (pgs_cons (pg_name (i := 15) sc_law.nd rfl (Or.inl rfl)) (pgs_cons (pg_name (i := 16) sc_law.nd rfl (Or.inl rfl)) pgs_nil)))) (fun _ _ _ _ _ => pts_nil) (fun _ _ _ _ _ => (pe_op op_add_str (pv 15) (pv 16)))) pa_nil)))
      (pss_cons (ps_set (i := 7) sc_law.nd rfl (Or.inl rfl) (pe_callC G_chain (hr.mono (by decide)) T.g_chain (pa_cons (pv 3) pa_nil)))
      (pss_cons (ps_if (PW.pt (pw_or (pt_cmpR op_ne (pe_callB (call_reprE hgd (un70 hr)) (by rfl) T.b_repr (by decide +kernel) (pa_cons (pv 7) pa_nil)) (pe_callB (call_reprE hgd (un70 hr)) (by rfl) T.b_repr (by decide +kernel) (pa_cons (pe_lc (own := [("_law_text", 17)]) (g := (gName 17)) rfl sc_law.nd (pi_list (pv 6)) (blkOk_by (own := [("_law_text", 17)]) (N := n_law) (sc := defScope s_law) (by decide +kernel)) (fun _ _ _ _ _ => (pg_name (i := 17) sc_law.nd rfl (Or.inl rfl))) (fun _ _ _ _ _ => pts_nil) (fun _ _ _ _ _ => (pe_tup (pa_cons (pe_ix ix_str (pv 17) pe_int (fun _ _ => rfl)) (pa_cons (pe_ix ix_str (pv 17) pe_int (fun _ _ => rfl)) pa_nil))))) pa_nil)) (nomark _)) (pw_or1 (pt_cmpR (op_neD hr.units) (pe_callC G_chain (hr.mono (by decide)) T.g_chain (pa_cons (pe_callTy call_tuple_of (by rfl) T.b_tuple (by decide +kernel) (pa_cons (pv 7) pa_nil)) pa_nil)) (pv 7) (nomark _))))) (pss_one (ps_ret pe_bl)) pss_nil)
      (pss_cons (ps_expr (pe_bm PySem.F.plainAttrs_list PySem.F.slot_list_append PySem.F.type_list_append mt_append (pv 7) (pa_cons pe_str pa_nil)))
      (pss_mid (ps_if (pt_cmpR (op_inD (un65 hr)) pe_str (pe_callC G_chain (hr.mono (by decide)) T.g_chain (pa_cons (pe_callTy call_tuple_of (by rfl) T.b_tuple (by decide +kernel) (pa_cons (pv 3) pa_nil)) pa_nil)) rfl) (pss_one (ps_ret pe_bl)) pss_nil)
      (pss_cons (ps_set (i := 8) sc_law.nd rfl (Or.inl rfl) (pe_callC G_l_some (hr.mono (by decide)) T.g__law_some (pa_cons (pv 1) (pa_cons pe_int pa_nil))))
      (pss_cons (ps_set (i := 9) sc_law.nd rfl (Or.inr rfl) (pe_callC G_l_lines (hr.mono (by decide)) T.g__law_lines (pa_cons (pv 1) (pa_cons (pv 8) (pa_cons pe_int (pa_cons pe_int pa_nil))))))
      (pss_cons (ps_set (i := 10) sc_law.nd rfl (Or.inl rfl) (pe_callC G_l_next (hr.mono (by decide)) T.g__law_next (pa_cons (pv 1) (pa_cons pe_int pa_nil))))
      (pss_mid (ps_if (pt_cmpR op_gt (pv 10) pe_int (nomark _)) (pss_one (ps_set (i := 9) sc_law.nd rfl (Or.inr rfl) (pe_callC G_l_kept (hr.mono (by decide)) T.g__law_kept (pa_cons (pv 9) (pa_cons (pe_ifExp (pt_cmpR op_eq (pv 10) pe_int (nomark _)) (pv 4) (pe_callC G_l_slower (hr.mono (by decide)) T.g__law_slower (pa_cons (pe_slice sl_list (pv 3) (po_some pe_int) po_none) pa_nil))) pa_nil))))) pss_nil)
      (pss_cons (ps_set (i := 11) sc_law.nd rfl (Or.inl rfl) (pe_makeC T.mk_Timetable G_Timetable__init (hr.mono (by decide)) T.g_Timetable (pa_cons (pe_callTy (call_dictP rfl) (by rfl) T.b_dict (by decide +kernel) (pa_cons (pe_lock (pe_lc (own := [("_law_letter", 18)]) (g := (gName 18)) rfl sc_law.nd (pi_keys (pv 9)) (blkOk_by (own := [("_law_letter", 18)]) (N := n_law) (sc := defScope s_law) (by decide +kernel)) (fun _ _ _ _ _ => (pg_name (i := 18) sc_law.nd rfl (Or.inl rfl))) (fun _ _ _ _ _ => pts_nil) (fun _ _ _ _ _ => (pe_tup (pa_cons (pv 18) (pa_cons (pe_makeC T.mk_Link G_Link__init (hr.mono (by decide)) T.g_Link (pa_cons (pe_dget (hu_of hr) (pv 9) (pv 18) (fun _ _ => rfl)) pa_nil)) pa_nil)))))) pa_nil)) pa_nil)))
      (pss_cons (ps_par (i := 12) (j := 13) (by rfl) sc_law.nd rfl rfl (by decide) rfl rfl (pa_cons (pe_callB (call_reprE hgd (un70 hr)) (by rfl) T.b_repr (by decide +kernel) (pa_cons (pv 3) pa_nil)) (pa_cons (pe_callC G_l_keeps (hr.mono (by decide)) T.g__law_keeps (pa_cons (pv 9) (pa_cons (pv 4) pa_nil))) pa_nil)) (by rfl))
      (pss_cons (ps_for PassesOwn.never rfl (pi_list (pe_lst (pa_cons (pv 3) (pa_cons (pe_callTy call_tuple_of (by rfl) T.b_tuple (by decide +kernel) (pa_cons (pv 3) pa_nil)) (pa_cons (pe_callC G_chain (hr.mono (by decide)) T.g_chain (pa_cons (pv 3) pa_nil)) pa_nil))))) (pg_name (i := 14) sc_law.nd rfl (Or.inl rfl)) (pss_one (ps_if (pt_cmpR op_ne (pe_callB (call_reprE hgd (un70 hr)) (by rfl) T.b_repr (by decide +kernel) (pa_cons (pe_callC G_keeps (hr.mono (by decide)) T.g_keeps (pa_cons (pv 11) (pa_cons (pv 14) pa_nil))) pa_nil)) (pe_callB (call_reprE hgd (un70 hr)) (by rfl) T.b_repr (by decide +kernel) (pa_cons (pv 13) pa_nil)) (nomark _)) (pss_one (ps_ret pe_bl)) pss_nil)))
      (pss_one (ps_if (PW.pt (pw_or (pt_cmpR op_ne (pe_callB (call_reprE hgd (un70 hr)) (by rfl) T.b_repr (by decide +kernel) (pa_cons (pv 3) pa_nil)) (pv 12) (nomark _)) (pw_or1 (pt_cmpR op_notBl (pe_callC G_keeps (hr.mono (by decide)) T.g_keeps (pa_cons (pv 11) (pa_cons (pe_lst pa_nil) pa_nil))) pe_bl (nomark _))))) (pss_one (ps_ret pe_bl)) pss_nil))))))))))))))))))
      (pss_one (ps_ret pe_bl)))), ?_⟩
    refine ⟨_, rfl, I, a, ns, rfl, sb, hS, hl, fun D I1 H1 g1 d1 => ?_⟩
    have hlim : lim = 1099511627776 := rfl
    refine ⟨_, rfl, a, _, rfl, .inl (sqL_up hS (g1.view.trans g1.sub)), _, _, rfl, _, _, rfl, rfl, 4 + min ns.length 12, ?_, by omega, by omega, ?_⟩
    · rw [List.length_map]
      show [V.int (4 + if (12 : Int) < (ns.length : Int) then (12 : Int) else (ns.length : Int))] = _
      have e : (4 + if (12 : Int) < (ns.length : Int) then (12 : Int) else (ns.length : Int)) = (4 : Int) + ((min ns.length 12 : Nat) : Int) := by split <;> omega
      rw [e]
    refine for_it (walk_range (lo := 0) (n := 4 + min ns.length 12)) (fun i σ H' => ∃ (I' : Hp) (v2 v3 v4 v5 v6 v7 v8 v9 v10 v11 v12 v13 v14 v15 v16 v17 v18 : Option V), σ = [some (.ref a), some (.ref D.d), v2, v3, v4, v5, v6, v7, v8, v9, v10, v11, v12, v13, v14, v15, v16, v17, v18] ∧ Drw D (300 * i) I' H')
      ⟨I1, none, none, none, none, none, none, none, none, none, none, none, none, none, none, none, none, none, rfl, d1⟩ (fun _ _ _ _ _ => trivial) ?_ ?_
    · rintro i x σ Hz H2 hi ⟨I2, v2, v3, v4, v5, v6, v7, v8, v9, v10, v11, v12, v13, v14, v15, v16, v17, v18, rfl, d2⟩ ⟨rfl, rfl⟩
      refine ⟨_, rfl, _, rfl, I2, D, _, 4, rfl, d2, by omega, by decide, by decide, fun l I3 H3 hnd hl97 hne hl4 g3 d3 => ?_⟩
      refine ⟨_, rfl, (by show 4 ≤ sizeLine; decide), fun q3 hq3 => ?_⟩
      refine ⟨I3, D, _, _, rfl, d3.mine hq3, by omega, .inl ⟨q3, _, rfl, d3.not hq3, upd_same, by simp, by simp, fun j y H4 hy g4 d4 => ?_⟩⟩
      obtain ⟨many, rfl, hm1, hm2⟩ : ∃ m : Nat, y = .int m ∧ 1 ≤ m ∧ m ≤ 12 := by
        have z := List.mem_of_getElem? hy
        simp only [List.mem_cons, List.not_mem_nil, or_false] at z
        rcases z with rfl | rfl | rfl | rfl
        · exact ⟨1, rfl, by decide, by decide⟩
        · exact ⟨2, rfl, by decide, by decide⟩
        · exact ⟨3, rfl, by decide, by decide⟩
        · exact ⟨12, rfl, by decide, by decide⟩
      refine ⟨I3, D, _, l, many, rfl, d4, by omega, hl4, hl97, hm1, hm2, fun v fs I5 H5 hok hfs g5 d5 => ?_⟩
      clear hy g4 d4 hq3 g3 d3 d2 hl97 hne hl4 hnd
      have hlt := hok.lt
      refine ⟨_, rfl, I5, v, fs, rfl, hfs, hlt, hok.2, d5.sub, fun u I6 H6 g6 hsl => ?_⟩
      have d6 := d5.grow g6
      have hfs6 := hfs.up g6.view
      have hss := slow_lt hlt
      have hsn := slow_nodup fs
      have hscm := fun (hs : List Fc) (hn : hs.Nodup) => slow_chain (hs := hs) hok hn
      have hnsl := never_slow hlt
      obtain ⟨ss, hse⟩ : ∃ ss, slow fs = ss := ⟨_, rfl⟩
      rw [hse] at hsl hss hsn hnsl
      have hs16 := len16 hsn hss
      clear g6 hfs d5 g5
      obtain ⟨sa, sws, rfl, hsa, hsp⟩ := id hsl
      have hsw := Nw.Paired.len hsp
      -- what is due
      refine ⟨_, rfl, sa, rfl, ⟨_, SqL.of (d6.sub _ _ hsa)⟩, fun L hL => ?_⟩
      refine lc_pure (β := FcR) walk_list ss (fun p => if p.1 ≠ p.2 then some ⟨p⟩ else none) hsw.symm d6.sub hL (by omega) (fun I' H' g => SqL.of (g.sub _ _ (g.view _ _ hsa))) ?_ ?_
      · rintro j p y I' H' H'' hj g ⟨rfl, hy⟩ Kn Ky kn ky
        obtain ⟨v', hv', b, rfl, hb⟩ := Nw.Paired.at hsp hj
        rw [hy] at hv'
        cases hv'
        have hbH : H'' b = some (.tup [.str (sg p.1), .str (sg p.2)]) := g.sub _ _ (g.view _ _ hb)
        refine ⟨b, _, rfl, SqT.of hbH, rfl, _, _, rfl, _, _, rfl, rfl, rfl, ?_⟩
        refine ⟨_, rfl, _, rfl, rfl, _, rfl, ?_⟩
        rw [sgV_eq]
        by_cases z : p.1 = p.2
        · rw [decide_eq_true z]
          exact iteF (kn (if_neg fun y => y z) _ _ (Grow.refl g.sub))
        · rw [decide_eq_false z]
          refine iteT ⟨_, rfl, _, rfl, (by show 2 ≤ sizeLine; decide), fun t ht => ?_⟩
          have gt : Grow No I' H'' _ (upd H'' t (.tup [.str (sg p.1), .str (sg p.2)])) := Grow.new g.sub ht
          exact ky _ (if_pos z) _ _ _ gt ⟨t, rfl, upd_same⟩
      intro I7 H7 vs7 g7 ow7 hp7
      have z7 := fcr_paired hp7
      rw [fm_filterR] at z7
      have g8 := g7.give ow7
      have d8 := d6.grow g8
      have hL8 : upd I7 L (.lst vs7) L = some (.lst vs7) := upd_same
      have hds8 := fc_mono z7 (Same.up (o := .lst vs7) ow7.ni)
      have e8 := g8.view
      generalize upd I7 L (.lst vs7) = I8 at g8 d8 hL8 hds8 e8
      clear g7 ow7 hp7 z7 hL
      have hdm : ∀ p, p ∈ (ss.filter fun p => decide (p.1 ≠ p.2)) ↔ p ∈ ss ∧ p.1 ≠ p.2 := fun p => by rw [List.mem_filter, decide_eq_true_iff]
      have hdn : (ss.filter fun p => decide (p.1 ≠ p.2)).Nodup := hsn.sublist List.filter_sublist
      generalize (ss.filter fun p => decide (p.1 ≠ p.2)) = ds at hds8 hdm hdn
      have hdl := Nw.Paired.len hds8
      have hdlt : ∀ p ∈ ds, isLt p.1 ∧ isLt p.2 := fun p hp => hss p ((hdm p).mp hp).1
      have hd16 := len16 hdn hdlt
      -- their texts
      refine ⟨_, rfl, L, rfl, ⟨_, SqL.of (d8.sub _ _ hL8)⟩, fun Lt hLt => ?_⟩
      refine lc_pure (β := Str) walk_list ds (fun p => some (txF p)) hdl.symm d8.sub hLt (by omega) (fun I' H' g => SqL.of (g.sub _ _ (g.view _ _ hL8))) ?_ ?_
      · rintro j p y I' H' H'' hj g ⟨rfl, hy⟩ Kn Ky kn ky
        obtain ⟨v', hv', b, rfl, hb⟩ := Nw.Paired.at hds8 hj
        rw [hy] at hv'
        cases hv'
        have hbH : H'' b = some (.tup [.str (sg p.1), .str (sg p.2)]) := g.sub _ _ (g.view _ _ hb)
        refine ⟨b, _, rfl, SqT.of hbH, rfl, _, _, rfl, _, _, rfl, rfl, rfl, lc_yes ?_⟩
        refine ⟨_, rfl, _, rfl, _, _, rfl, rfl, (by show 2 ≤ sizeLine; decide), ?_⟩
        exact ky (txF p) rfl _ _ _ (Grow.refl g.sub) (congrArg V.str (by unfold txF; rw [← mk_sg, ← mk_sg, mk_app] <;> rfl))
      intro I9 H9 vs9 g9 ow9 hp9
      have e9 := Paired.strs hp9
      rw [List.filterMap_eq_map'] at e9
      subst e9
      refine ⟨Lt, _, rfl, SqL.of ow9.at_, by rw [List.length_map]; omega, fun ys q pm hs hq => ?_⟩
      obtain ⟨hs2, hgp, rfl⟩ := L2.perm_lift txF pm _ rfl
      have g10 : Grow No I9 H9 (upd I9 q (.lst ((hs2.map txF).map V.str))) (upd H9 q (.lst ((hs2.map txF).map V.str))) := Grow.new g9.sub hq
      have d10 := (d8.grow g9).grow g10
      have hq10 : upd I9 q (.lst ((hs2.map txF).map V.str)) q = some (.lst ((hs2.map txF).map V.str)) := upd_same
      have e10 := g9.view.trans g10.view
      generalize upd I9 q (.lst ((hs2.map txF).map V.str)) = I10 at d10 hq10 e10
      generalize upd H9 q (.lst ((hs2.map txF).map V.str)) = H10 at d10 ⊢
      have hcs := hscm hs2 (hgp.nodup_iff.mpr hdn) (fun p => by rw [hgp.mem_iff, hdm, hse]) hs
      have hhl : hs2.length ≤ 16 := by rw [hgp.length_eq]; exact hd16
      clear g10 hq ow9 hp9 g9 d8 hLt pm hs hscm
      have hfs10 := hfs6.up (e8.trans e10)
      have hsl10 := hsl.up (e8.trans e10)
      clear hfs6 hsl hsa hsp e8 e10 hL8 hds8
      -- chain
      refine ⟨_, rfl, I10, v, fs, rfl, hfs10.seq, hok, d10.sub, fun q7 vs' gs I11 H11 g11 ow11 hgs hch => ?_⟩
      have hgok := chain_ok hok hch
      have heq : gs = hs2 := chain_one hok hch hcs
      subst heq
      have d11 := d10.grow g11
      have o11 : Own (TD D) H10 q7 (.lst vs') I11 H11 := ⟨d10.not ow11.n0, ow11.n0, ow11.ni, ow11.at_⟩
      have hfs11 := hfs10.up g11.view
      have hsl11 := hsl10.up g11.view
      have hq11 := g11.view _ _ hq10
      have hgl16 : gs.length ≤ 16 := hhl
      have hlgs := Nw.Paired.len hgs
      refine ⟨_, rfl, repr_fcsN o11.at_ hgs d11.sub hgok.lt hgl16 ⟨_, rfl, q, rfl, ⟨_, SqL.of (d11.sub _ _ hq11)⟩, fun Lr hLr => ?_⟩⟩
      refine lc_pure (β := FcR) walk_list gs (fun p => some ⟨p⟩) (by rw [List.length_map, List.length_map]) d11.sub hLr (by rw [List.length_map, List.length_map]; omega) (fun I' H' g => SqL.of (g.sub _ _ (g.view _ _ hq11))) ?_ ?_
      · rintro j p y I' H' H'' hj g ⟨rfl, hy⟩ Kn Ky kn ky
        rw [List.getElem?_map, List.getElem?_map, hj] at hy
        cases hy
        refine ⟨rfl, lc_yes ?_⟩
        refine ⟨_, rfl, txF p, 0, p.1, rfl, rfl, (by show 2 ≤ sizeLine; decide), (by rw [show (txF p).cps.toList = [p.1, p.2] from mk_cps _, atI_nat' (j := 0) (by decide)]; rfl), _, rfl, txF p, 1, p.2, rfl, rfl, (by show 2 ≤ sizeLine; decide), (by rw [show (txF p).cps.toList = [p.1, p.2] from mk_cps _, atI_nat' (j := 1) (by decide)]; rfl), (by show 2 ≤ sizeLine; decide), fun t ht => ?_⟩
        have gt : Grow No I' H'' _ (upd H'' t (.tup [.str (sg p.1), .str (sg p.2)])) := Grow.new g.sub ht
        exact ky _ rfl _ _ _ gt ⟨t, rfl, upd_same⟩
      intro I12 H12 vs12 g12 ow12 hp12
      have z12 := fcr_paired hp12
      rw [show (gs.filterMap fun p => some (⟨p⟩ : FcR)).map FcR.p = gs by rw [List.filterMap_eq_map', List.map_map]; exact List.map_id' gs] at z12
      have d12 := d11.grow g12
      have o12 := o11.grow g12.no
      refine repr_fcsN ow12.at_ z12 d12.sub hgok.lt hgl16 ⟨rfl, _, rfl, ?_⟩
      rw [decide_eq_true rfl]
      have hgs12 := fc_mono hgs g12.view
      have hfs12 := hfs11.up g12.view
      have hsl12 := hsl11.up g12.view
      clear ow12 hp12 z12 g12 hLr hq11 hq10 hgs hfs11 hsl11 hfs10 hsl10 d11 o11 g11 ow11 d10
      refine iteF ⟨_, rfl, q7, vs', rfl, .inl ⟨SqL.of o12.at_, fun t ht => ?_⟩⟩
      have gt : Grow No I12 H12 (upd I12 t (.tup vs')) (upd H12 t (.tup vs')) := Grow.new d12.sub ht
      have d13 := d12.grow gt
      have o13 := o12.grow gt.no
      have hgs13 := fc_mono hgs12 gt.view
      have hfs13 := hfs12.up gt.view
      have hsl13 := hsl12.up gt.view
      refine ⟨upd I12 t (.tup vs'), .ref t, gs, rfl, ⟨t, true, vs', rfl, upd_same, hgs13⟩, hgok, gt.sub, fun q14 vs14 gs14 I14 H14 g14 ow14 hgs14 hch14 => ?_⟩
      have hchA := chain_again hok hch hch14
      have e14 : gs14 = gs := chain_one hok hchA hch
      subst e14
      have d14 := d13.grow g14
      have o14 := o13.grow g14.no
      have hfs14 := hfs13.up g14.view
      have hsl14 := hsl13.up g14.view
      refine ⟨_, rfl, neD_fcs ow14.at_ o14.at_ hgs14 (fc_mono hgs13 g14.view) d14.sub d14.sub hgok.lt ?_⟩
      refine ⟨_, rfl, iteF ⟨_, rfl, .inl ⟨rfl, _, SqL.of o14.at_⟩, q7, vs', _, rfl, rfl, o14.at_, by rw [hlgs, sizeLine_eq]; omega, ?_⟩⟩
      have d15 := d14.put o14 (o' := .lst (vs' ++ [.str (Str.ofString "x")]))
      generalize upd H14 q7 (.lst (vs' ++ [.str (Str.ofString "x")])) = H15 at d15 ⊢
      clear o14 o13 ow14 hgs14 hgs13 d14 g14 hfs13 hsl13 d13 gt ht o12 d12 hfs12 hsl12 hchA hch hgok hcs hgp hgs12 g8
      refine ⟨fun σ H' => ∃ (I' : Hp) (vt v5 v6 v7 v8 v9 v10 v11 v12 v13 v14 v15 v16 v17 v18 : Option V), σ = [some (.ref a), some (.ref D.d), vt, some v, some (.ref sa), v5, v6, v7, v8, v9, v10, v11, v12, v13, v14, v15, v16, v17, v18] ∧ Drw D (300 * i + 30) I' H' ∧ isFcs I' v fs ∧ isFcs I' (.ref sa) ss, ?_, ?_⟩
      · obtain ⟨fa, fws, rfl, hfa, hfp⟩ := id hfs14
        have hlf := Nw.Paired.len hfp
        refine ⟨_, rfl, fa, fws, rfl, .inl ⟨SqL.of (d15.sub _ _ hfa), fun t ht => ?_⟩⟩
        have gt : Grow No I14 H15 (upd I14 t (.tup fws)) (upd H15 t (.tup fws)) := Grow.new d15.sub ht
        have d16 := d15.grow gt
        refine ⟨upd I14 t (.tup fws), .ref t, fs, rfl, ⟨t, true, fws, rfl, upd_same, fc_mono hfp gt.view⟩, hok, gt.sub, fun q17 vs17 gs17 I17 H17 g17 ow17 hgs17 hch17 => ?_⟩
        have d17 := d16.grow g17
        have hg17 := chain_ok hok hch17
        refine ⟨.str "x", gs17.map dF, .str _, .lst (SqL.of ow17.at_) (fc_dps d17.sub hgs17), by decide +kernel, shaped_fcs hg17.lt, ?_⟩
        refine ⟨_, rfl, ?_⟩
        rw [no_x]
        exact iteF ⟨_, _, _, _, _, _, _, _, _, _, _, _, _, _, _, _, rfl, d17.mono (by omega), hfs14.up (gt.view.trans g17.view), hsl14.up (gt.view.trans g17.view)⟩
      clear d15 hfs14 hsl14
      rintro σ H1 ⟨I1, vt, v5, v6, v7, v8, v9, v10, v11, v12, v13, v14, v15, v16, v17, v18, rfl, d1, hfs1, hsl1⟩
      refine ⟨_, rfl, I1, D, _, 4, rfl, d1, by omega, by decide, by decide, fun l I3 H3 hnd hl97 hne hl4 g3 d3 => ?_⟩
      have hfs3 := hfs1.up g3.view
      have hsl3 := hsl1.up g3.view
      refine ⟨_, rfl, _, rfl, I3, D, _, l, 6, 6, rfl, d3, by omega, hl4, hnd, by decide, by decide, by decide, fun ls u I4 H4 hlc hgd hln g4 d4 => ?_⟩
      have hfs4 := hfs3.up g4.view
      have hsl4 := hsl3.up g4.view
      have hlcn : (ls.map (·.c)).Nodup := by rw [hlc]; exact hnd
      obtain ⟨R, hlR, hRp⟩ := lines_fun ls hlcn
      rw [hlc] at hlR hRp
      have hR : ∀ c ∈ l, goodR 6 (R c) := fun c hc => by
        obtain ⟨p, hp, e⟩ := hRp c hc
        rw [e]
        exact hgd p hp
      rw [hlR] at hln
      refine ⟨_, rfl, I4, D, _, 3, rfl, d4, by omega, by omega, by omega, fun z H5 hz0 hz1 g5 d5 => ?_⟩
      refine ⟨fun σ H' => ∃ (I' : Hp) (u' : V) (R' : Nat → Rides) (vt v5 v6 v7 v8 v10 v11 v12 v13 v14 v15 v16 v17 v18 : Option V), σ = [some (.ref a), some (.ref D.d), vt, some v, some (.ref sa), v5, v6, v7, v8, some u', v10, v11, v12, v13, v14, v15, v16, v17, v18] ∧ Drw D (300 * i + 260) I' H' ∧ isFcs I' v fs ∧ isFcs I' (.ref sa) ss ∧ isLines I' u' (l.map fun c => ⟨c, R' c⟩) ∧ (∀ c ∈ l, (R' c).length ≤ 60 ∧ ∀ r ∈ R' c, r.1 ≤ r.2 ∧ r.2.natAbs ≤ 10 ^ 40), ?_, ?_⟩
      · refine ⟨_, rfl, _, _, rfl, rfl, _, rfl, ?_⟩
        by_cases hz : (0 : Int) < z
        · rw [decide_eq_true hz]
          refine iteT ⟨_, rfl, ?_⟩
          refine ⟨_, rfl, rfl, _, rfl, ?_⟩
          by_cases hz1 : z = 1
          · rw [decide_eq_true (by rw [hz1])]
            refine iteT ⟨_, rfl, I4, u, .ref sa, l, R, ss, rfl, hln, hnd, hl4, fun c hc => ⟨hl97 c hc, (hR c hc).1⟩, hsl4, hss, hs16, d5.sub, fun u' I6 H6 g6 hln6 => ?_⟩
            exact ⟨I6, u', keptR l R ss, _, _, _, _, _, _, _, _, _, _, _, _, _, _, rfl, (d5.grow g6).mono (by omega), hfs4.up g6.view, hsl4.up g6.view, hln6, keptR_ok hl4 hR⟩
          · rw [decide_eq_false fun y => hz1 (V.int.inj y)]
            obtain ⟨fa, fws, rfl, hfa, hfp⟩ := id hfs4
            refine iteF ⟨_, rfl, _, rfl, fa, fws, rfl, SqL.of (d5.sub _ _ hfa), fun t ht => ?_⟩
            rw [cut1]
            have gt : Grow No I4 H5 (upd I4 t (.lst (fws.drop 1))) (upd H5 t (.lst (fws.drop 1))) := Grow.new d5.sub ht
            have hd1 : ∀ p ∈ fs.drop 1, isLt p.1 ∧ isLt p.2 := fun p hp => hlt p (List.mem_of_mem_drop hp)
            refine ⟨upd I4 t (.lst (fws.drop 1)), .ref t, fs.drop 1, rfl, ⟨t, _, rfl, upd_same, pr_drop1 (fc_mono hfp gt.view)⟩, hd1, by rw [List.length_drop]; have := hok.2; omega, gt.sub, fun u2 I6 H6 g6 hsl6 => ?_⟩
            have g46 := gt.trans g6
            have hs2 := slow_lt hd1
            have hl2 := len16 (slow_nodup (fs.drop 1)) hs2
            revert hsl6 hs2 hl2
            generalize slow (fs.drop 1) = ss2
            intro hsl6 hs2 hl2
            refine ⟨I6, u, u2, l, R, ss2, rfl, hln.up g46.view, hnd, hl4, fun c hc => ⟨hl97 c hc, (hR c hc).1⟩, hsl6, hs2, hl2, g46.sub, fun u' I7 H7 g7 hln7 => ?_⟩
            have g47 := g46.trans g7
            exact ⟨I7, u', keptR l R ss2, _, _, _, _, _, _, _, _, _, _, _, _, _, _, rfl, (d5.grow g47).mono (by omega), hfs4.up g47.view, hsl4.up g47.view, hln7, keptR_ok hl4 hR⟩
        · rw [decide_eq_false hz]
          refine iteF ⟨I4, u, R, _, _, _, _, _, _, _, _, _, _, _, _, _, _, rfl, d5.mono (by omega), hfs4, hsl4, hln, fun c hc => ?_⟩
          have hg := hR c hc
          exact ⟨Nat.le_trans hg.1 (by decide), fun r hr => ⟨(hg.2 r hr).1, by have := (hg.2 r hr).2.2; omega⟩⟩
      clear hsl4 hfs4 hln hlR hRp hR hlcn hgd hlc d4 d5 g4 g5 d3 g3 hfs3 hsl3 hfs1 hsl1 d1
      rintro σ H1 ⟨I1, u', R, vt, v5, v6, v7, v8, v10, v11, v12, v13, v14, v15, v16, v17, v18, rfl, d1, hfs1, hsl1, hln, hR⟩
      obtain ⟨d, kvs, rfl, hd, hlk⟩ := id hln
      refine ⟨d, _, d1.sub _ _ hd, trivial, fun od => ?_⟩
      refine ⟨_, rfl, d, od, rfl, .inl ⟨_, upd_same, fun L hL => ?_⟩⟩
      have hkk : kvs.map (·.1) = l := by rw [hlk.keys, List.map_map]; exact List.map_id' l
      have hll : kvs.length = l.length := by
        have := congrArg List.length hkk
        rwa [List.length_map] at this
      have s0 : Same (delH I1 d) (upd H1 d (.frz od (.dK (kvs.map kvS)))) := lock_sub d1.sub
      have hl0 := lines_del hd hlk
      refine lc_gen (T := No) (I := delH I1 d) (β := KvP (Lk K)) walk_keys (fun _ _ _ => True) (fun _ => Stable.triv) s0 (fun _ z => z.elim) hL trivial (by rw [List.length_map]; omega) (fun _ I' H' g _ => g.keep _ _ (fun z => z) upd_same) (fun j o => ∃ c x, l[j]? = some c ∧ o = some ⟨c, x⟩ ∧ IsNeeded (R c) x.ns) ?_ ?_
      · rintro j x' I' H2 H3 hj g _ ⟨rfl, kk, vv, hkv, rfl⟩ Kn Ky kn ky
        obtain ⟨q2, hm, hq2, rfl, rfl⟩ := mem_keys hkv
        have hc : l[j]? = some q2.1 := by rw [← hkk, List.getElem?_map, hq2]; rfl
        have hin : q2.1 ∈ l := List.mem_of_getElem? hc
        obtain ⟨v', hv', hr'⟩ := find_line hl0 hin
        refine ⟨rfl, lc_yes ?_⟩
        have hfz : H3 d = some (.frz od (.dK (kvs.map kvS))) := g.keep _ _ (fun z => z) upd_same
        have hget : DGet H3 d (.str (sg q2.1)) (lookT kvs q2.1) := .inl ⟨_, .inr (sg q2.1), .inr ⟨_, hfz⟩, rfl, (valV_S q2.1 kvs).symm⟩
        rw [hv'] at hget
        refine ⟨_, rfl, _, rfl, _, rfl, d, _, rfl, hget, ?_⟩
        have hcR := hR _ hin
        refine make_link g.sub (isL.up hr' g.view) hcR.1 (fun r hr => (hcR.2 r hr).1) fun x ns J H4 g4 hl hn => ⟨rfl, ?_⟩
        refine ⟨(by show 2 ≤ sizeLine; decide), fun t ht => ?_⟩
        have gt : Grow No J H4 _ (upd H4 t (.tup [.str (sg q2.1), .ref x])) := Grow.new g4.sub ht
        exact ky ⟨q2.1, ⟨ns⟩⟩ ⟨_, _, hc, rfl, hn⟩ _ _ _ (g4.trans gt) trivial ⟨t, _, rfl, upd_same, hl.up gt.view⟩
      intro os I2 H2 vs2 hlen hP g2 _ ow hp2
      have hlen' : os.length = l.length := by rw [hlen, List.length_map, hll]
      obtain ⟨hk1, hk2⟩ := os_keys (G := fun c (x : Lk K) => IsNeeded (R c) x.ns) hlen' hP
      revert hp2 hk1 hk2
      generalize os.filterMap id = xs
      intro hp2 hk1 hk2
      have hp4 : H2 d = some (.frz od (.dK (kvs.map kvS))) := g2.keep _ _ (fun z => z) upd_same
      have id2 : I2 d = none := g2.fresh d delH_same (by rw [upd_same]; exact fun z => nomatch z)
      have gu := Grow.unlock d1.sub hd g2
      have nLd : L ≠ d := (ne_of_none upd_same hL).symm
      have hp3 : Paired (Rep.is (upd I2 d (.dK (kvs.map kvS)))) vs2 xs := Paired.mono' (fun _ _ z => Rep.mono (Same.up id2) z) hp2
      obtain ⟨ps, ks, rfl, hps, hlk2⟩ := kvP_of (K := K) gu.sub hp3
      have hk3 : ks.map (·.1) = l := by rw [hlk2.keys]; exact hk1
      refine ⟨hp4, L, ps, ks.map kvS, rfl, SqL.of (by rw [upd_ne nLd]; exact ow.at_), hps, fun p hp => ?_⟩
      rw [keys_kvS (by rw [hk3]; exact hnd)]
      have hxl : xs.length = l.length := by rw [← hk1, List.length_map]
      refine make_table gu.sub hp hlk2 (fun z => hne (by rw [← hk1, z]; rfl)) (by omega) (fun x hx => hl97 x.c (by rw [← hk1]; exact List.mem_map_of_mem hx)) fun x I3 H3 gC hT => ⟨rfl, ?_⟩
      have g3 := gu.trans gC
      have d3 := d1.grow g3
      have hfs3 := hfs1.up g3.view
      have hsl3 := hsl1.up g3.view
      have hln3 := hln.up g3.view
      have htk : ∀ c ∈ l, ∃ n, lookT (orderT (xs.map fun x => (x.c, x.x.ns))) c = some n ∧ IsNeeded (R c) n := fun c hc => by
        rw [look_order _ (hl97 c hc)]
        have hc' : c ∈ (xs.map fun x => (x.c, x.x.ns)).map (·.1) := by rw [List.map_map]; rw [← hk1] at hc; exact hc
        obtain ⟨q, hq, e⟩ := List.mem_map.mp hc'
        have hnd' : ((xs.map fun x => (x.c, x.x.ns)).map (·.1)).Nodup := by rw [List.map_map]; rw [← hk1] at hnd; exact hnd
        have hf := find_key2 hnd' hq
        obtain ⟨y, hy, rfl⟩ := List.mem_map.mp hq
        have e : y.c = c := e
        subst e
        exact ⟨y.x.ns, by unfold lookT; rw [hf]; rfl, hk2 y hy⟩
      have htl : ∀ p ∈ orderT (xs.map fun x => (x.c, x.x.ns)), p.1 ∈ l ∧ p.2.length ≤ 60 := fun p hp => by
        obtain ⟨y, hy, rfl⟩ := List.mem_map.mp (order_mem hp)
        have hyl : y.c ∈ l := by rw [← hk1]; exact List.mem_map_of_mem hy
        have h1 := (hk2 y hy).few
        have h2 := (hR y.c hyl).1
        exact ⟨hyl, by show y.x.ns.length ≤ 60; omega⟩
      obtain ⟨htn, ht4⟩ := order_keys (xs.map fun x => (x.c, x.x.ns))
      revert hT htk htl htn ht4
      generalize orderT (xs.map fun x => (x.c, x.x.ns)) = tb
      intro hT htk htl htn ht4
      have hkeys : ∀ c, c ∈ tb.map (·.1) ↔ c ∈ l := fun c => by
        constructor
        · intro h
          obtain ⟨p, hp, rfl⟩ := List.mem_map.mp h
          exact (htl p hp).1
        · intro h
          obtain ⟨n, hn, _⟩ := htk c h
          exact List.mem_map.mpr ⟨(c, n), look_in hn, rfl⟩
      have hqq : ∀ a ∈ tb.map (·.1), ∀ b ∈ tb.map (·.1), lkT tb a b = lkR R a b := fun a ha b hb => by
        have ha := (hkeys a).mp ha
        have hb := (hkeys b).mp hb
        obtain ⟨na, ea, ia⟩ := htk a ha
        obtain ⟨nb, eb, ib⟩ := htk b hb
        unfold lkT lkR
        rw [ea, eb]
        exact leB_quick ia ib (fun r hr => ((hR a ha).2 r hr).2) (fun r hr => ((hR b hb).2 r hr).2)
      have hkept : keptB (tb.map (·.1)) (lkT tb) (never fs) = keptB l (lkR R) ss := kept_keys hkeys hqq hnsl
      have hself : keptB (tb.map (·.1)) (lkT tb) (never []) = true := by
        unfold keptB
        rw [List.all_eq_true]
        intro p hp
        by_cases hz : p.1 ∈ tb.map (·.1) ∧ p.2 ∈ tb.map (·.1)
        · rw [decide_eq_true hz.1, decide_eq_true hz.2]
          have e := never_nil p hp
          obtain ⟨na, ea, ia⟩ := htk p.1 ((hkeys _).mp hz.1)
          show lkT tb p.1 p.2 = true
          rw [← e]
          unfold lkT
          rw [ea]
          exact leB_refl ia fun r hr => ((hR p.1 ((hkeys _).mp hz.1)).2 r hr).2
        · by_cases h1 : p.1 ∈ tb.map (·.1)
          · rw [decide_eq_true h1, decide_eq_false fun y => hz ⟨h1, y⟩] <;> rfl
          · rw [decide_eq_false h1] <;> rfl
      have htp : ∀ p ∈ tb, p.2.length ≤ 60 := fun p hp => (htl p hp).2
      clear htl htk hqq hkeys hp2 hp3 hlk2 hk1 hk2 hps ow g2 hl0 s0 gu gC hP hlen hlen' hln hfs1 hsl1 d1
      obtain ⟨fa, fws, rfl, hfa, hfp⟩ := id hfs3
      have hf16 : fs.length ≤ 16 := by have := hok.2; omega
      refine ⟨_, rfl, repr_fcsN (d3.sub _ _ hfa) hfp d3.sub hlt hf16 ?_⟩
      refine ⟨_, rfl, _, rfl, I3, .ref d, .ref sa, l, R, ss, rfl, hln3, fun c hc => (hR c hc).1, hsl3, d3.sub, fun I4 H4 g4 => ⟨_, _, rfl, ?_⟩⟩
      rw [← hkept]
      have d4 := d3.grow g4
      have hT4 := isTable.up hT g4.view
      have hfa4 := g4.view _ _ hfa
      have hfp4 := fc_mono hfp g4.view
      clear hkept hln3 hsl3 hT hfp d3 g3 hfs3 hkk hll hlk g4
      refine ⟨_, rfl, _, rfl, fa, fws, rfl, .inl ⟨SqL.of (d4.sub _ _ hfa4), fun t ht => ?_⟩⟩
      have gt : Grow No I4 H4 (upd I4 t (.tup fws)) (upd H4 t (.tup fws)) := Grow.new d4.sub ht
      have d5 := d4.grow gt
      have hfa5 := gt.view _ _ hfa4
      have hfp5 := fc_mono hfp4 gt.view
      have ht5 : upd I4 t (.tup fws) t = some (.tup fws) := upd_same
      have hT5 := isTable.up hT4 gt.view
      revert d5 hfa5 hfp5 ht5 hT5
      generalize upd I4 t (.tup fws) = I5
      generalize upd H4 t (.tup fws) = H5
      intro d5 hfa5 hfp5 ht5 hT5
      clear gt ht d4 hfa4 hfp4 hT4 hfa
      refine ⟨_, rfl, I5, .ref fa, fs, rfl, ⟨fa, false, fws, rfl, hfa5, hfp5⟩, hok, d5.sub, fun q6 vs6 gs6 I6 H6 g6 ow6 hgs6 hch6 => ?_⟩
      have hgok6 := chain_ok hok hch6
      have g7 := g6.give ow6
      have d7 := d5.grow g7
      have hfa7 := g7.view _ _ hfa5
      have hfp7 := fc_mono hfp5 g7.view
      have ht7 := g7.view _ _ ht5
      have hT7 := isTable.up hT5 g7.view
      have hq7 : upd I6 q6 (.lst vs6) q6 = some (.lst vs6) := upd_same
      have hgs7 := fc_mono hgs6 (Same.up (o := .lst vs6) ow6.ni)
      revert d7 hfa7 hfp7 ht7 hT7 hq7 hgs7
      generalize upd I6 q6 (.lst vs6) = I7
      intro d7 hfa7 hfp7 ht7 hT7 hq7 hgs7
      clear g7 g6 ow6 hgs6 d5 hfa5 hfp5 ht5 hT5
      refine ⟨(by show 3 ≤ sizeLine; decide), fun pl hpl => ?_⟩
      have gp : Grow No I7 H6 (upd I7 pl (.lst [.ref fa, .ref t, .ref q6])) (upd H6 pl (.lst [.ref fa, .ref t, .ref q6])) := Grow.new d7.sub hpl
      have d8 := d7.grow gp
      have hel : ∀ (j : Nat) (y : V), [V.ref fa, V.ref t, V.ref q6][j]? = some y → ∃ gs, isSeq (upd I7 pl (.lst [.ref fa, .ref t, .ref q6])) y gs ∧ okFs gs ∧ keptB (tb.map (·.1)) (lkT tb) (never gs) = keptB (tb.map (·.1)) (lkT tb) (never fs) := fun j y hy => by
        have z := List.mem_of_getElem? hy
        simp only [List.mem_cons, List.not_mem_nil, or_false] at z
        rcases z with rfl | rfl | rfl
        · exact ⟨fs, ⟨fa, false, fws, rfl, gp.view _ _ hfa7, fc_mono hfp7 gp.view⟩, hok, rfl⟩
        · exact ⟨fs, ⟨t, true, fws, rfl, gp.view _ _ ht7, fc_mono hfp7 gp.view⟩, hok, rfl⟩
        · exact ⟨gs6, ⟨q6, false, vs6, rfl, gp.view _ _ hq7, fc_mono hgs7 gp.view⟩, hgok6, kept_chain hok hch6⟩
      have hfa8 := gp.view _ _ hfa7
      have hfp8 := fc_mono hfp7 gp.view
      have hT8 := isTable.up hT7 gp.view
      have hp8 : upd I7 pl (.lst [.ref fa, .ref t, .ref q6]) pl = some (.lst [.ref fa, .ref t, .ref q6]) := upd_same
      revert d8 hfa8 hfp8 hT8 hp8 hel
      generalize upd I7 pl (.lst [.ref fa, .ref t, .ref q6]) = I8
      generalize upd H6 pl (.lst [.ref fa, .ref t, .ref q6]) = H8
      intro d8 hel hfa8 hfp8 hT8 hp8
      clear gp hpl d7 hfa7 hfp7 ht7 hT7 hq7 hgs7 hch6 hgok6
      refine ⟨pl, rfl, ⟨_, SqL.of (d8.sub _ _ hp8)⟩, ?_⟩
      refine for_it (walk_list (K := K) (a := pl) (xs := [.ref fa, .ref t, .ref q6])) (fun j σ H' => ∃ (I' : Hp) (w14 : Option V), σ = [some (.ref a), some (.ref D.d), vt, some (.ref fa), some (.ref sa), v5, v6, v7, v8, some (.ref d), v10, some (.ref x), some (.str (PyData.list (fs.map dF)).shown), some (.bl (keptB (tb.map (·.1)) (lkT tb) (never fs))), w14, v15, v16, v17, v18] ∧ Grow No I8 H8 I' H')
        ⟨I8, _, rfl, Grow.refl d8.sub⟩ (fun _ _ _ _ ⟨_, _, _, g⟩ => SqL.of (g.sub _ _ (g.view _ _ hp8))) ?_ ?_
      · rintro j y σ H9 H9' hj ⟨I9, w14, rfl, g9⟩ ⟨rfl, hy⟩
        obtain ⟨gs, hgs, hgo, hke⟩ := hel _ _ hy
        refine ⟨_, rfl, _, rfl, I9, .ref x, y, tb, gs, rfl, isTable.up hT8 g9.view, htn, ht4, htp, hgs.up g9.view, hgo, g9.sub, fun I10 H10 g10 => ?_⟩
        rw [hke]
        refine repr_blN ⟨_, rfl, repr_blN ⟨rfl, _, rfl, ?_⟩⟩
        rw [decide_eq_true rfl]
        exact iteF ⟨I10, _, rfl, g9.trans g10⟩
      · rintro σ H9 ⟨I9, w14, rfl, g9⟩
        have d9 := d8.grow g9
        refine ⟨_, rfl, repr_fcsN (d9.sub _ _ (g9.view _ _ hfa8)) (fc_mono hfp8 g9.view) d9.sub hlt hf16 ⟨_, rfl, rfl, _, rfl, ?_⟩⟩
        rw [decide_eq_true rfl]
        refine iteF ⟨_, rfl, (by show 0 ≤ sizeLine; decide), fun pe hpe => ?_⟩
        have ge : Grow No I9 H9 (upd I9 pe (.lst [])) (upd H9 pe (.lst [])) := Grow.new d9.sub hpe
        refine ⟨upd I9 pe (.lst []), .ref x, .ref pe, tb, [], rfl, isTable.up hT8 (g9.view.trans ge.view), htn, ht4, htp, ⟨pe, false, [], rfl, upd_same, .nil⟩, ⟨fun _ z => (nomatch z), Nat.zero_le _⟩, ge.sub, fun I10 H10 g10 => ?_⟩
        rw [hself]
        refine ⟨true, true, rfl, rfl, ?_⟩
        refine ⟨_, rfl, iteF ⟨I10, _, _, _, _, _, _, _, _, _, _, _, _, _, _, _, _, _, rfl, ((d9.grow ge).grow g10).mono (by omega)⟩⟩
    · rintro σ H2 ⟨I2, v2, v3, v4, v5, v6, v7, v8, v9, v10, v11, v12, v13, v14, v15, v16, v17, v18, rfl, d2⟩
      exact k _
end
end Nw
namespace Nw
open PySem PySem.Spec PyProof.Rows L2
def d_is_number : He.DefD := ⟨("is_number", none), "is_number", "is_number", defArgs s_is_number, defBody s_is_number, defScope s_is_number, [], []⟩
def d_NoLink__init : He.DefD := ⟨("NoLink", some "__init__"), "__init__", "NoLink.__init__", defArgs s_NoLink__init, defBody s_NoLink__init, defScope s_NoLink__init, [], []⟩
def d_l_next : He.DefD := ⟨("_law_next", none), "_law_next", "_law_next", defArgs s_l_next, defBody s_l_next, defScope s_l_next, [], []⟩
def d_l_begun : He.DefD := ⟨("_law_begun", none), "_law_begun", "_law_begun", defArgs s_l_begun, defBody s_l_begun, defScope s_l_begun, [], []⟩
def d_l_pick : He.DefD := ⟨("_law_pick", none), "_law_pick", "_law_pick", defArgs s_l_pick, defBody s_l_pick, defScope s_l_pick, [], []⟩
def d_l_shuffled : He.DefD := ⟨("_law_shuffled", none), "_law_shuffled", "_law_shuffled", defArgs s_l_shuffled, defBody s_l_shuffled, defScope s_l_shuffled, [], []⟩
def d_l_some : He.DefD := ⟨("_law_some", none), "_law_some", "_law_some", defArgs s_l_some, defBody s_l_some, defScope s_l_some, [], []⟩
def d_is_ride : He.DefD := ⟨("is_ride", none), "is_ride", "is_ride", defArgs s_is_ride, defBody s_is_ride, defScope s_is_ride, [], []⟩
def d_needed : He.DefD := ⟨("needed", none), "needed", "needed", defArgs s_needed, defBody s_needed, defScope s_needed, [], []⟩
def d_Link__init : He.DefD := ⟨("Link", some "__init__"), "__init__", "Link.__init__", defArgs s_Link__init, defBody s_Link__init, defScope s_Link__init, [], []⟩
def d_Timetable__init : He.DefD := ⟨("Timetable", some "__init__"), "__init__", "Timetable.__init__", defArgs s_Timetable__init, defBody s_Timetable__init, defScope s_Timetable__init, [], []⟩
def d_l_end : He.DefD := ⟨("_law_end", none), "_law_end", "_law_end", defArgs s_l_end, defBody s_l_end, defScope s_l_end, [], []⟩
def d_ended : He.DefD := ⟨("ended", none), "ended", "ended", defArgs s_ended, defBody s_ended, defScope s_ended, [], []⟩
def d_Timetable__getitem : He.DefD := ⟨("Timetable", some "__getitem__"), "__getitem__", "Timetable.__getitem__", defArgs s_Timetable__getitem, defBody s_Timetable__getitem, defScope s_Timetable__getitem, [], []⟩
def d_is_earlier : He.DefD := ⟨("is_earlier", none), "is_earlier", "is_earlier", defArgs s_is_earlier, defBody s_is_earlier, defScope s_is_earlier, [], []⟩
def d_Link__le : He.DefD := ⟨("Link", some "__le__"), "__le__", "Link.__le__", defArgs s_Link__le, defBody s_Link__le, defScope s_Link__le, [], []⟩
def d_l_rides : He.DefD := ⟨("_law_rides", none), "_law_rides", "_law_rides", defArgs s_l_rides, defBody s_l_rides, defScope s_l_rides, [], []⟩
def d_l_lines : He.DefD := ⟨("_law_lines", none), "_law_lines", "_law_lines", defArgs s_l_lines, defBody s_l_lines, defScope s_l_lines, [], []⟩
def d_need_table : He.DefD := ⟨("need_table", none), "need_table", "need_table", defArgs s_need_table, defBody s_need_table, defScope s_need_table, [], []⟩
def d_is_fact : He.DefD := ⟨("is_fact", none), "is_fact", "is_fact", defArgs s_is_fact, defBody s_is_fact, defScope s_is_fact, [], []⟩
def d_need_facts : He.DefD := ⟨("need_facts", none), "need_facts", "need_facts", defArgs s_need_facts, defBody s_need_facts, defScope s_need_facts, [], []⟩
def d_l_place : He.DefD := ⟨("_law_place", none), "_law_place", "_law_place", defArgs s_l_place, defBody s_l_place, defScope s_l_place, [], []⟩
def d_never_slower : He.DefD := ⟨("never_slower", none), "never_slower", "never_slower", defArgs s_never_slower, defBody s_never_slower, defScope s_never_slower, [], []⟩
def d_Timetable_letters : He.DefD := ⟨("Timetable", some "letters"), "letters", "Timetable.letters", defArgs s_Timetable_letters, defBody s_Timetable_letters, defScope s_Timetable_letters, [], []⟩
def d_chain : He.DefD := ⟨("chain", none), "chain", "chain", defArgs s_chain, defBody s_chain, defScope s_chain, [], []⟩
def d_keeps : He.DefD := ⟨("keeps", none), "keeps", "keeps", defArgs s_keeps, defBody s_keeps, defScope s_keeps, [], []⟩
def d_l_facts : He.DefD := ⟨("_law_facts", none), "_law_facts", "_law_facts", defArgs s_l_facts, defBody s_l_facts, defScope s_l_facts, [], []⟩
def d_l_slower : He.DefD := ⟨("_law_slower", none), "_law_slower", "_law_slower", defArgs s_l_slower, defBody s_l_slower, defScope s_l_slower, [], []⟩
def d_l_quick : He.DefD := ⟨("_law_quick", none), "_law_quick", "_law_quick", defArgs s_l_quick, defBody s_l_quick, defScope s_l_quick, [], []⟩
def d_l_keeps : He.DefD := ⟨("_law_keeps", none), "_law_keeps", "_law_keeps", defArgs s_l_keeps, defBody s_l_keeps, defScope s_l_keeps, [], []⟩
def d_l_kept : He.DefD := ⟨("_law_kept", none), "_law_kept", "_law_kept", defArgs s_l_kept, defBody s_l_kept, defScope s_l_kept, [], []⟩
def d_law : He.DefD := ⟨("law", none), "law", "law", defArgs s_law, defBody s_law, defScope s_law, [], []⟩
def fn : List He.DefD := [d_is_number, d_NoLink__init, d_l_next, d_l_begun, d_l_pick, d_l_shuffled, d_l_some, d_is_ride, d_needed, d_Link__init, d_Timetable__init, d_l_end, d_ended, d_Timetable__getitem, d_is_earlier, d_Link__le, d_l_rides, d_l_lines, d_need_table, d_is_fact, d_need_facts, d_l_place, d_never_slower, d_chain, d_keeps, d_l_facts, d_l_slower, d_l_quick, d_l_keeps, d_l_kept, d_law]
def gs : List GetD := [(("Timetable", "letters"), d_Timetable_letters)]
def tf : List He.Defn := []
def fa : List He.Fa := [.free "abs", .free "all", .free "bool", .free "dict", .free "enumerate", .free "int", .free "isinstance", .free "len", .free "list", .free "min", .free "property", .free "range", .free "repr", .free "sorted", .free "str", .free "tuple", .glo "_wall", .glo "is_number", .glo "is_moment", .glo "need_moment", .glo "is_earlier", .glo "sooner_of", .glo "is_ride", .glo "ended", .glo "begun", .glo "needed", .glo "link_by", .glo "need_table", .glo "is_fact", .glo "need_facts", .glo "never_slower", .glo "chain", .glo "keeps", .glo "_law_begun", .glo "_law_next", .glo "_law_pick", .glo "_law_shuffled", .glo "_law_some", .glo "_law_rides", .glo "_law_place", .glo "_law_end", .glo "_law_lines", .glo "_law_facts", .glo "_law_slower", .glo "_law_kept", .glo "_law_quick", .glo "_law_keeps", .glo "law", .glo "OrderError", .glo "NoMoment", .glo "NoRides", .glo "NoTable", .glo "NoLink", .meth "NoLink" "__init__", .noat "NoLink" "letter", .glo "NoFacts", .glo "TooMany", .glo "Link", .cls "Link", .mkr "Link", .meth "Link" "end", .meth "Link" "begin", .meth "Link" "__eq__", .meth "Link" "__mul__", .meth "Link" "__or__", .meth "Link" "__and__", .meth "Link" "__invert__", .meth "Link" "__le__", .noat "Link" "own_rides", .glo "Timetable", .cls "Timetable", .mkr "Timetable", .meth "Timetable" "__getitem__", .meth "Timetable" "__iter__", .meth "Timetable" "__eq__", .meth "Timetable" "need_links", .meth "Timetable" "led", .meth "Timetable" "go", .meth "Timetable" "track", .meth "Timetable" "turned", .noat "Timetable" "own_links", .str "FIRST" "first", .str "LAST" "last", .int "MOST_RIDES" 60, .str "LINKS" "abcd", .int "MOST_FACTS" 12]
def loose : List Str := (["_wall", "OrderError", "NoMoment", "NoRides", "NoTable", "NoLink", "NoFacts", "TooMany", "FIRST", "LAST", "MOST_RIDES", "is_number", "is_moment", "need_moment", "is_earlier", "sooner_of", "is_ride", "ended", "begun", "needed", "link_by", "Link", "LINKS", "need_table", "Timetable", "MOST_FACTS", "is_fact", "need_facts", "never_slower", "chain"] : List Str) ++ (["keeps", "_law_begun", "_law_next", "_law_pick", "_law_shuffled", "_law_some", "_law_rides", "_law_place", "_law_end", "_law_lines", "_law_facts", "_law_slower", "_law_kept", "_law_quick", "_law_keeps"] : List Str)
def ex (K : PySem.W.Frag) : Bool := (insB K (He.ga K "Link") && (insB K (He.ga K "Timetable") && (exfB K (He.ga K "NoLink") && (oexB K (He.ga K "NoLink") && (oeiB K (He.ga K "OrderError") && propB K (He.ga K "Timetable") "letters")))))
abbrev R : PySem.W.OpenRow := PySem.W.OpenLaw.row PySem.Challenge.rw_newsinorder_k42_facts_in_timetables
abbrev hk : PySem.W.Hook := hookP 5 fa fn tf ex gs
def ob (s : PySem.W.SharedT) : AlP := obsP 5 fa fn tf ex gs (HandSHeadRun.getT s)
theorem ob_eq (s : PySem.W.SharedT) : ob s = hk.obs s.abs := obsP_eq (HandSHeadRun.getT_eq s)

theorem run (w : World) : HandSHeadRun.RunEq R (PySem.W.view R.prog [51]) hk ob 20000 loose w := by
  intro os
  kernel_rfl
theorem facts {P : Program} {w : World} {K : PySem.W.Frag} {h : Heap} {mg : Str → Option Value} {f : Addr} (X : K.In h) (G : h.Ns mainGlobals mg) (hfa : mg ("law" : Str) = some (.ref f)) (c : SaysP fa fn tf ex gs h K) :
    ∃ fd : FuncData, (∀ (s : Shared) (v : Value), BindsTo s fd ⟨[v], []⟩ [("_law_script", v)]) ∧ ∀ base : Heap, K.In base → base.Ns mainGlobals mg → FnG P w K mg base CX0 8 f fd ["_law_script"] (sp_law K) := by
  have cm := c.more
  unfold ex at cm
  rw [Bool.and_eq_true, Bool.and_eq_true, Bool.and_eq_true, Bool.and_eq_true, Bool.and_eq_true] at cm
  obtain ⟨i_0, i_1, i_2, i_3, i_4, i_5⟩ := cm
  have x_0 : mg "abs" = none := He.free_ok X G (c.d.fact 0 (f := .free "abs") rfl)
  have x_1 : mg "all" = none := He.free_ok X G (c.d.fact 1 (f := .free "all") rfl)
  have x_2 : mg "bool" = none := He.free_ok X G (c.d.fact 2 (f := .free "bool") rfl)
  have x_3 : mg "dict" = none := He.free_ok X G (c.d.fact 3 (f := .free "dict") rfl)
  have x_4 : mg "enumerate" = none := He.free_ok X G (c.d.fact 4 (f := .free "enumerate") rfl)
  have x_5 : mg "int" = none := He.free_ok X G (c.d.fact 5 (f := .free "int") rfl)
  have x_6 : mg "isinstance" = none := He.free_ok X G (c.d.fact 6 (f := .free "isinstance") rfl)
  have x_7 : mg "len" = none := He.free_ok X G (c.d.fact 7 (f := .free "len") rfl)
  have x_8 : mg "list" = none := He.free_ok X G (c.d.fact 8 (f := .free "list") rfl)
  have x_9 : mg "min" = none := He.free_ok X G (c.d.fact 9 (f := .free "min") rfl)
  have x_10 : mg "property" = none := He.free_ok X G (c.d.fact 10 (f := .free "property") rfl)
  have x_11 : mg "range" = none := He.free_ok X G (c.d.fact 11 (f := .free "range") rfl)
  have x_12 : mg "repr" = none := He.free_ok X G (c.d.fact 12 (f := .free "repr") rfl)
  have x_13 : mg "sorted" = none := He.free_ok X G (c.d.fact 13 (f := .free "sorted") rfl)
  have x_14 : mg "str" = none := He.free_ok X G (c.d.fact 14 (f := .free "str") rfl)
  have x_15 : mg "tuple" = none := He.free_ok X G (c.d.fact 15 (f := .free "tuple") rfl)
  have x_16 : mg "_wall" = some (.ref (He.ga K "_wall")) := He.glo_ok X G (c.d.fact 16 (f := .glo "_wall") rfl)
  have x_17 : mg "is_number" = some (.ref (He.ga K "is_number")) := He.glo_ok X G (c.d.fact 17 (f := .glo "is_number") rfl)
  have x_18 : mg "is_moment" = some (.ref (He.ga K "is_moment")) := He.glo_ok X G (c.d.fact 18 (f := .glo "is_moment") rfl)
  have x_19 : mg "need_moment" = some (.ref (He.ga K "need_moment")) := He.glo_ok X G (c.d.fact 19 (f := .glo "need_moment") rfl)
  have x_20 : mg "is_earlier" = some (.ref (He.ga K "is_earlier")) := He.glo_ok X G (c.d.fact 20 (f := .glo "is_earlier") rfl)
  have x_21 : mg "sooner_of" = some (.ref (He.ga K "sooner_of")) := He.glo_ok X G (c.d.fact 21 (f := .glo "sooner_of") rfl)
  have x_22 : mg "is_ride" = some (.ref (He.ga K "is_ride")) := He.glo_ok X G (c.d.fact 22 (f := .glo "is_ride") rfl)
  have x_23 : mg "ended" = some (.ref (He.ga K "ended")) := He.glo_ok X G (c.d.fact 23 (f := .glo "ended") rfl)
  have x_24 : mg "begun" = some (.ref (He.ga K "begun")) := He.glo_ok X G (c.d.fact 24 (f := .glo "begun") rfl)
  have x_25 : mg "needed" = some (.ref (He.ga K "needed")) := He.glo_ok X G (c.d.fact 25 (f := .glo "needed") rfl)
  have x_26 : mg "link_by" = some (.ref (He.ga K "link_by")) := He.glo_ok X G (c.d.fact 26 (f := .glo "link_by") rfl)
  have x_27 : mg "need_table" = some (.ref (He.ga K "need_table")) := He.glo_ok X G (c.d.fact 27 (f := .glo "need_table") rfl)
  have x_28 : mg "is_fact" = some (.ref (He.ga K "is_fact")) := He.glo_ok X G (c.d.fact 28 (f := .glo "is_fact") rfl)
  have x_29 : mg "need_facts" = some (.ref (He.ga K "need_facts")) := He.glo_ok X G (c.d.fact 29 (f := .glo "need_facts") rfl)
  have x_30 : mg "never_slower" = some (.ref (He.ga K "never_slower")) := He.glo_ok X G (c.d.fact 30 (f := .glo "never_slower") rfl)
  have x_31 : mg "chain" = some (.ref (He.ga K "chain")) := He.glo_ok X G (c.d.fact 31 (f := .glo "chain") rfl)
  have x_32 : mg "keeps" = some (.ref (He.ga K "keeps")) := He.glo_ok X G (c.d.fact 32 (f := .glo "keeps") rfl)
  have x_33 : mg "_law_begun" = some (.ref (He.ga K "_law_begun")) := He.glo_ok X G (c.d.fact 33 (f := .glo "_law_begun") rfl)
  have x_34 : mg "_law_next" = some (.ref (He.ga K "_law_next")) := He.glo_ok X G (c.d.fact 34 (f := .glo "_law_next") rfl)
  have x_35 : mg "_law_pick" = some (.ref (He.ga K "_law_pick")) := He.glo_ok X G (c.d.fact 35 (f := .glo "_law_pick") rfl)
  have x_36 : mg "_law_shuffled" = some (.ref (He.ga K "_law_shuffled")) := He.glo_ok X G (c.d.fact 36 (f := .glo "_law_shuffled") rfl)
  have x_37 : mg "_law_some" = some (.ref (He.ga K "_law_some")) := He.glo_ok X G (c.d.fact 37 (f := .glo "_law_some") rfl)
  have x_38 : mg "_law_rides" = some (.ref (He.ga K "_law_rides")) := He.glo_ok X G (c.d.fact 38 (f := .glo "_law_rides") rfl)
  have x_39 : mg "_law_place" = some (.ref (He.ga K "_law_place")) := He.glo_ok X G (c.d.fact 39 (f := .glo "_law_place") rfl)
  have x_40 : mg "_law_end" = some (.ref (He.ga K "_law_end")) := He.glo_ok X G (c.d.fact 40 (f := .glo "_law_end") rfl)
  have x_41 : mg "_law_lines" = some (.ref (He.ga K "_law_lines")) := He.glo_ok X G (c.d.fact 41 (f := .glo "_law_lines") rfl)
  have x_42 : mg "_law_facts" = some (.ref (He.ga K "_law_facts")) := He.glo_ok X G (c.d.fact 42 (f := .glo "_law_facts") rfl)
  have x_43 : mg "_law_slower" = some (.ref (He.ga K "_law_slower")) := He.glo_ok X G (c.d.fact 43 (f := .glo "_law_slower") rfl)
  have x_44 : mg "_law_kept" = some (.ref (He.ga K "_law_kept")) := He.glo_ok X G (c.d.fact 44 (f := .glo "_law_kept") rfl)
  have x_45 : mg "_law_quick" = some (.ref (He.ga K "_law_quick")) := He.glo_ok X G (c.d.fact 45 (f := .glo "_law_quick") rfl)
  have x_46 : mg "_law_keeps" = some (.ref (He.ga K "_law_keeps")) := He.glo_ok X G (c.d.fact 46 (f := .glo "_law_keeps") rfl)
  have x_47 : mg "law" = some (.ref (He.ga K "law")) := He.glo_ok X G (c.d.fact 47 (f := .glo "law") rfl)
  have x_48 : mg "OrderError" = some (.ref (He.ga K "OrderError")) := He.glo_ok X G (c.d.fact 48 (f := .glo "OrderError") rfl)
  have x_49 : mg "NoMoment" = some (.ref (He.ga K "NoMoment")) := He.glo_ok X G (c.d.fact 49 (f := .glo "NoMoment") rfl)
  have x_50 : mg "NoRides" = some (.ref (He.ga K "NoRides")) := He.glo_ok X G (c.d.fact 50 (f := .glo "NoRides") rfl)
  have x_51 : mg "NoTable" = some (.ref (He.ga K "NoTable")) := He.glo_ok X G (c.d.fact 51 (f := .glo "NoTable") rfl)
  have x_52 : mg "NoLink" = some (.ref (He.ga K "NoLink")) := He.glo_ok X G (c.d.fact 52 (f := .glo "NoLink") rfl)
  have x_53 : Meth K (He.ga K "NoLink") "__init__" (He.ma K (He.ga K "NoLink") "__init__") := He.meth_ok (c.d.fact 53 (f := .meth "NoLink" "__init__") rfl)
  have x_54 : NoAttr K (He.ga K "NoLink") "letter" := He.noat_ok (c.d.fact 54 (f := .noat "NoLink" "letter") rfl)
  have x_55 : mg "NoFacts" = some (.ref (He.ga K "NoFacts")) := He.glo_ok X G (c.d.fact 55 (f := .glo "NoFacts") rfl)
  have x_56 : mg "TooMany" = some (.ref (He.ga K "TooMany")) := He.glo_ok X G (c.d.fact 56 (f := .glo "TooMany") rfl)
  have x_57 : mg "Link" = some (.ref (He.ga K "Link")) := He.glo_ok X G (c.d.fact 57 (f := .glo "Link") rfl)
  have x_58 : Cls K (He.ga K "Link") := He.cls_ok (c.d.fact 58 (f := .cls "Link") rfl)
  have x_59 : Mk K (He.ga K "Link") (He.ma K (He.ga K "Link") "__init__") := He.mkr_ok (c.d.fact 59 (f := .mkr "Link") rfl)
  have x_60 : Meth K (He.ga K "Link") "end" (He.ma K (He.ga K "Link") "end") := He.meth_ok (c.d.fact 60 (f := .meth "Link" "end") rfl)
  have x_61 : Meth K (He.ga K "Link") "begin" (He.ma K (He.ga K "Link") "begin") := He.meth_ok (c.d.fact 61 (f := .meth "Link" "begin") rfl)
  have x_62 : Meth K (He.ga K "Link") "__eq__" (He.ma K (He.ga K "Link") "__eq__") := He.meth_ok (c.d.fact 62 (f := .meth "Link" "__eq__") rfl)
  have x_63 : Meth K (He.ga K "Link") "__mul__" (He.ma K (He.ga K "Link") "__mul__") := He.meth_ok (c.d.fact 63 (f := .meth "Link" "__mul__") rfl)
  have x_64 : Meth K (He.ga K "Link") "__or__" (He.ma K (He.ga K "Link") "__or__") := He.meth_ok (c.d.fact 64 (f := .meth "Link" "__or__") rfl)
  have x_65 : Meth K (He.ga K "Link") "__and__" (He.ma K (He.ga K "Link") "__and__") := He.meth_ok (c.d.fact 65 (f := .meth "Link" "__and__") rfl)
  have x_66 : Meth K (He.ga K "Link") "__invert__" (He.ma K (He.ga K "Link") "__invert__") := He.meth_ok (c.d.fact 66 (f := .meth "Link" "__invert__") rfl)
  have x_67 : Meth K (He.ga K "Link") "__le__" (He.ma K (He.ga K "Link") "__le__") := He.meth_ok (c.d.fact 67 (f := .meth "Link" "__le__") rfl)
  have x_68 : NoAttr K (He.ga K "Link") "own_rides" := He.noat_ok (c.d.fact 68 (f := .noat "Link" "own_rides") rfl)
  have x_69 : mg "Timetable" = some (.ref (He.ga K "Timetable")) := He.glo_ok X G (c.d.fact 69 (f := .glo "Timetable") rfl)
  have x_70 : Cls K (He.ga K "Timetable") := He.cls_ok (c.d.fact 70 (f := .cls "Timetable") rfl)
  have x_71 : Mk K (He.ga K "Timetable") (He.ma K (He.ga K "Timetable") "__init__") := He.mkr_ok (c.d.fact 71 (f := .mkr "Timetable") rfl)
  have x_72 : Meth K (He.ga K "Timetable") "__getitem__" (He.ma K (He.ga K "Timetable") "__getitem__") := He.meth_ok (c.d.fact 72 (f := .meth "Timetable" "__getitem__") rfl)
  have x_73 : Meth K (He.ga K "Timetable") "__iter__" (He.ma K (He.ga K "Timetable") "__iter__") := He.meth_ok (c.d.fact 73 (f := .meth "Timetable" "__iter__") rfl)
  have x_74 : Meth K (He.ga K "Timetable") "__eq__" (He.ma K (He.ga K "Timetable") "__eq__") := He.meth_ok (c.d.fact 74 (f := .meth "Timetable" "__eq__") rfl)
  have x_75 : Meth K (He.ga K "Timetable") "need_links" (He.ma K (He.ga K "Timetable") "need_links") := He.meth_ok (c.d.fact 75 (f := .meth "Timetable" "need_links") rfl)
  have x_76 : Meth K (He.ga K "Timetable") "led" (He.ma K (He.ga K "Timetable") "led") := He.meth_ok (c.d.fact 76 (f := .meth "Timetable" "led") rfl)
  have x_77 : Meth K (He.ga K "Timetable") "go" (He.ma K (He.ga K "Timetable") "go") := He.meth_ok (c.d.fact 77 (f := .meth "Timetable" "go") rfl)
  have x_78 : Meth K (He.ga K "Timetable") "track" (He.ma K (He.ga K "Timetable") "track") := He.meth_ok (c.d.fact 78 (f := .meth "Timetable" "track") rfl)
  have x_79 : Meth K (He.ga K "Timetable") "turned" (He.ma K (He.ga K "Timetable") "turned") := He.meth_ok (c.d.fact 79 (f := .meth "Timetable" "turned") rfl)
  have x_80 : NoAttr K (He.ga K "Timetable") "own_links" := He.noat_ok (c.d.fact 80 (f := .noat "Timetable" "own_links") rfl)
  have x_81 : ∃ t, mg "FIRST" = some (.str "first" t) := He.str_ok X G (c.d.fact 81 (f := .str "FIRST" "first") rfl)
  have x_82 : ∃ t, mg "LAST" = some (.str "last" t) := He.str_ok X G (c.d.fact 82 (f := .str "LAST" "last") rfl)
  have x_83 : ∃ t, mg "MOST_RIDES" = some (.int 60 t) := He.int_ok X G (c.d.fact 83 (f := .int "MOST_RIDES" 60) rfl)
  have x_84 : ∃ t, mg "LINKS" = some (.str "abcd" t) := He.str_ok X G (c.d.fact 84 (f := .str "LINKS" "abcd") rfl)
  have x_85 : ∃ t, mg "MOST_FACTS" = some (.int 12 t) := He.int_ok X G (c.d.fact 85 (f := .int "MOST_FACTS" 12) rfl)
  have x_86 : InsF K (He.ga K "Link") := insB_ok i_0
  have x_87 : InsF K (He.ga K "Timetable") := insB_ok i_1
  have x_88 : ExF K (He.ga K "NoLink") := exfB_ok i_2
  have x_89 : OexC K (He.ga K "NoLink") := oexB_ok i_3
  have x_90 : OeI K (He.ga K "OrderError") := oeiB_ok i_4
  have x_91 : PropOf K (He.ga K "Timetable") "letters" (propAt K (He.ga K "Timetable") "letters") (propGet K (He.ga K "Timetable") "letters") := propB_ok i_5
  have T : Txt K mg := ⟨x_0, x_1, x_2, x_3, x_4, x_5, x_6, x_7, x_8, x_9, x_10, x_11, x_12, x_13, x_14, x_15, x_16, x_17, x_18, x_19, x_20, x_21, x_22, x_23, x_24, x_25, x_26, x_27, x_28, x_29, x_30, x_31, x_32, x_33, x_34, x_35, x_36, x_37, x_38, x_39, x_40, x_41, x_42, x_43, x_44, x_45, x_46, x_47, x_48, x_49, x_50, x_51, x_52, x_53, x_54, x_55, x_56, x_57, x_58, x_59, x_60, x_61, x_62, x_63, x_64, x_65, x_66, x_67, x_68, x_69, x_70, x_71, x_72, x_73, x_74, x_75, x_76, x_77, x_78, x_79, x_80, x_81, x_82, x_83, x_84, x_85, x_86, x_87, x_88, x_89, x_90, x_91⟩
  have F_Timetable_letters : FnAt K "letters" "Timetable.letters" s_Timetable_letters (propGet K (He.ga K "Timetable") "letters") := c.get 0 (d := (("Timetable", "letters"), d_Timetable_letters)) rfl
  have F_is_number : FnAt K "is_number" "is_number" s_is_number (He.ga K "is_number") := c.d.def_ 0 (d := d_is_number) rfl
  have F_NoLink__init : FnAt K "__init__" "NoLink.__init__" s_NoLink__init (He.ma K (He.ga K "NoLink") "__init__") := c.d.def_ 1 (d := d_NoLink__init) rfl
  have F_l_next : FnAt K "_law_next" "_law_next" s_l_next (He.ga K "_law_next") := c.d.def_ 2 (d := d_l_next) rfl
  have F_l_begun : FnAt K "_law_begun" "_law_begun" s_l_begun (He.ga K "_law_begun") := c.d.def_ 3 (d := d_l_begun) rfl
  have F_l_pick : FnAt K "_law_pick" "_law_pick" s_l_pick (He.ga K "_law_pick") := c.d.def_ 4 (d := d_l_pick) rfl
  have F_l_shuffled : FnAt K "_law_shuffled" "_law_shuffled" s_l_shuffled (He.ga K "_law_shuffled") := c.d.def_ 5 (d := d_l_shuffled) rfl
  have F_l_some : FnAt K "_law_some" "_law_some" s_l_some (He.ga K "_law_some") := c.d.def_ 6 (d := d_l_some) rfl
  have F_is_ride : FnAt K "is_ride" "is_ride" s_is_ride (He.ga K "is_ride") := c.d.def_ 7 (d := d_is_ride) rfl
  have F_needed : FnAt K "needed" "needed" s_needed (He.ga K "needed") := c.d.def_ 8 (d := d_needed) rfl
  have F_Link__init : FnAt K "__init__" "Link.__init__" s_Link__init (He.ma K (He.ga K "Link") "__init__") := c.d.def_ 9 (d := d_Link__init) rfl
  have F_Timetable__init : FnAt K "__init__" "Timetable.__init__" s_Timetable__init (He.ma K (He.ga K "Timetable") "__init__") := c.d.def_ 10 (d := d_Timetable__init) rfl
  have F_l_end : FnAt K "_law_end" "_law_end" s_l_end (He.ga K "_law_end") := c.d.def_ 11 (d := d_l_end) rfl
  have F_ended : FnAt K "ended" "ended" s_ended (He.ga K "ended") := c.d.def_ 12 (d := d_ended) rfl
  have F_Timetable__getitem : FnAt K "__getitem__" "Timetable.__getitem__" s_Timetable__getitem (He.ma K (He.ga K "Timetable") "__getitem__") := c.d.def_ 13 (d := d_Timetable__getitem) rfl
  have F_is_earlier : FnAt K "is_earlier" "is_earlier" s_is_earlier (He.ga K "is_earlier") := c.d.def_ 14 (d := d_is_earlier) rfl
  have F_Link__le : FnAt K "__le__" "Link.__le__" s_Link__le (He.ma K (He.ga K "Link") "__le__") := c.d.def_ 15 (d := d_Link__le) rfl
  have F_l_rides : FnAt K "_law_rides" "_law_rides" s_l_rides (He.ga K "_law_rides") := c.d.def_ 16 (d := d_l_rides) rfl
  have F_l_lines : FnAt K "_law_lines" "_law_lines" s_l_lines (He.ga K "_law_lines") := c.d.def_ 17 (d := d_l_lines) rfl
  have F_need_table : FnAt K "need_table" "need_table" s_need_table (He.ga K "need_table") := c.d.def_ 18 (d := d_need_table) rfl
  have F_is_fact : FnAt K "is_fact" "is_fact" s_is_fact (He.ga K "is_fact") := c.d.def_ 19 (d := d_is_fact) rfl
  have F_need_facts : FnAt K "need_facts" "need_facts" s_need_facts (He.ga K "need_facts") := c.d.def_ 20 (d := d_need_facts) rfl
  have F_l_place : FnAt K "_law_place" "_law_place" s_l_place (He.ga K "_law_place") := c.d.def_ 21 (d := d_l_place) rfl
  have F_never_slower : FnAt K "never_slower" "never_slower" s_never_slower (He.ga K "never_slower") := c.d.def_ 22 (d := d_never_slower) rfl
  have F_chain : FnAt K "chain" "chain" s_chain (He.ga K "chain") := c.d.def_ 23 (d := d_chain) rfl
  have F_keeps : FnAt K "keeps" "keeps" s_keeps (He.ga K "keeps") := c.d.def_ 24 (d := d_keeps) rfl
  have F_l_facts : FnAt K "_law_facts" "_law_facts" s_l_facts (He.ga K "_law_facts") := c.d.def_ 25 (d := d_l_facts) rfl
  have F_l_slower : FnAt K "_law_slower" "_law_slower" s_l_slower (He.ga K "_law_slower") := c.d.def_ 26 (d := d_l_slower) rfl
  have F_l_quick : FnAt K "_law_quick" "_law_quick" s_l_quick (He.ga K "_law_quick") := c.d.def_ 27 (d := d_l_quick) rfl
  have F_l_keeps : FnAt K "_law_keeps" "_law_keeps" s_l_keeps (He.ga K "_law_keeps") := c.d.def_ 28 (d := d_l_keeps) rfl
  have F_l_kept : FnAt K "_law_kept" "_law_kept" s_l_kept (He.ga K "_law_kept") := c.d.def_ 29 (d := d_l_kept) rfl
  obtain ⟨fd, F⟩ := c.d.def_ 30 (d := d_law) rfl
  have e := hfa.symm.trans T.g_law
  cases e
  have b := FunD.bindsA (ps := ["_law_script"]) F fun _ _ _ _ _ _ us hl => match us, hl with | [_], _ => rfl
  refine ⟨fd, fun s v => b s [v] rfl, fun base _ _ => ?_⟩
  have O_is_number := ok_is_number (P := P) (w := w) (base := base) T F_is_number 
  have O_NoLink__init := ok_NoLink__init (P := P) (w := w) (base := base) T F_NoLink__init 
  have O_l_next := ok_l_next (P := P) (w := w) (base := base) T F_l_next 
  have O_l_begun := ok_l_begun (P := P) (w := w) (base := base) T F_l_begun 
  have O_l_pick := ok_l_pick (P := P) (w := w) (base := base) T F_l_pick O_l_next
  have O_l_shuffled := ok_l_shuffled (P := P) (w := w) (base := base) T F_l_shuffled O_l_next
  have O_l_some := ok_l_some (P := P) (w := w) (base := base) T F_l_some O_l_shuffled O_l_next
  have O_is_ride := ok_is_ride (P := P) (w := w) (base := base) T F_is_ride O_is_number
  have O_needed := ok_needed (P := P) (w := w) (base := base) T F_needed 
  have O_Link__init := ok_Link__init (P := P) (w := w) (base := base) T F_Link__init O_is_ride O_needed
  have O_Timetable__init := ok_Timetable__init (P := P) (w := w) (base := base) T F_Timetable__init 
  have O_l_end := ok_l_end (P := P) (w := w) (base := base) T F_l_end 
  have O_ended := ok_ended (P := P) (w := w) (base := base) T F_ended 
  have O_Timetable__getitem := ok_Timetable__getitem (P := P) (w := w) (base := base) T F_Timetable__getitem 
  have O_is_earlier := ok_is_earlier (P := P) (w := w) (base := base) T F_is_earlier 
  have O_Link__le := ok_Link__le (P := P) (w := w) (base := base) T F_Link__le O_is_earlier O_ended
  have O_l_rides := ok_l_rides (P := P) (w := w) (base := base) T F_l_rides O_l_next
  have O_l_lines := ok_l_lines (P := P) (w := w) (base := base) T F_l_lines O_l_rides
  have O_need_table := ok_need_table (P := P) (w := w) (base := base) T F_need_table 
  have O_is_fact := ok_is_fact (P := P) (w := w) (base := base) T F_is_fact 
  have O_need_facts := ok_need_facts (P := P) (w := w) (base := base) T F_need_facts O_is_fact
  have O_l_place := ok_l_place (P := P) (w := w) (base := base) T F_l_place 
  have O_never_slower := ok_never_slower (P := P) (w := w) (base := base) T F_never_slower 
  have O_Timetable_letters := ok_Timetable_letters (P := P) (w := w) (base := base) T F_Timetable_letters 
  have O_chain := ok_chain (P := P) (w := w) (base := base) T F_chain O_need_facts O_never_slower
  have O_keeps := ok_keeps (P := P) (w := w) (base := base) T F_keeps O_need_table O_need_facts O_never_slower O_Timetable_letters O_Timetable__getitem O_Link__le
  have O_l_facts := ok_l_facts (P := P) (w := w) (base := base) T F_l_facts O_l_next O_l_pick
  have O_l_slower := ok_l_slower (P := P) (w := w) (base := base) T F_l_slower 
  have O_l_quick := ok_l_quick (P := P) (w := w) (base := base) T F_l_quick O_l_end O_l_place
  have O_l_keeps := ok_l_keeps (P := P) (w := w) (base := base) T F_l_keeps O_l_quick
  have O_l_kept := ok_l_kept (P := P) (w := w) (base := base) T F_l_kept 
  exact ok_law T F O_l_begun O_l_next O_l_pick O_l_some O_l_facts O_l_slower O_chain O_l_lines O_l_kept O_l_keeps O_keeps O_Link__init O_Timetable__init
end Nw
open PySem PySem.W PySem.Calls PyProof.Rows
theorem PySem.Challenge.cw_newsinorder_k42_facts_in_timetables_holds : PySem.Challenge.rw_newsinorder_k42_facts_in_timetables.Holds := by
  w_on; o_law
  refine HandSHeadRun.head_any (r := OpenLaw.row PySem.Challenge.rw_newsinorder_k42_facts_in_timetables) (q := view (OpenLaw.row PySem.Challenge.rw_newsinorder_k42_facts_in_timetables).prog [51]) (H := Nw.hk) (ob := Nw.ob) (M := 20000) (loose := Nw.loose) (d := HandSHeadRun.topDef (OpenLaw.row PySem.Challenge.rw_newsinorder_k42_facts_in_timetables).prog 51) (kwd := []) Nw.ob_eq
    (by kernel_rfl) (fun s => by kernel_rfl) Nw.run (by kernel_rfl) (by kernel_rfl) (by kernel_rfl) (by rfl) (by first | assumption | decide +kernel) (by decide +kernel) ⟨rfl, rfl, rfl, rfl, rfl, by decide +kernel⟩ ?hw ?hc
  case hw => w_witness2
  case hc =>
    refine Nw.walk_ofG (l := PySem.Challenge.rw_newsinorder_k42_facts_in_timetables) (n := 63) (k := 8) (x := "_law_script") rfl (by decide) (by kernel_rfl) ⟨rfl, by decide, by decide⟩ ?F
    intro w mg fa h Y G hmg0
    obtain ⟨K, KX, c⟩ := Y
    have hmg : mg ("law" : PySem.Str) = some (.ref fa) := by
      have e : (HandSHeadRun.topDef (OpenLaw.row PySem.Challenge.rw_newsinorder_k42_facts_in_timetables).prog 51).name = ("law" : PySem.Str) := by kernel_rfl
      rw [← e]
      exact hmg0
    obtain ⟨fd, hb, hF⟩ := Nw.facts (P := (PySem.Challenge.rw_newsinorder_k42_facts_in_timetables).prog) (w := w) KX G hmg c
    exact ⟨K, fd, Nw.sp_law K, KX, hb, fun H a ns hl hS => ⟨H, a, ns, rfl, L2.Same.refl H, hS, hl, fun _ => rfl⟩, hF⟩