import PyProof.Rows.All
import Wide.All
import OpenK.AllK
import Wide.FinOn
import HandS.ForMost
import HandS.Walk
import HandS.Zip
import HandS.TupAny
import HandS.Defaults
import HandS.IsInst
import HandS.NoneIn
import HandS.Star
import HandS.Head0
import HandS.Head1
import HandS.Head2
import HandS.HeadEnd
import HandS.HeadHook1
import HandS.HeadHook2
import HandS.HeadHook3
import HandS.HeadHook4
import HandS.Lambda
import HandS.SortInts
import HandS.Conv
import HandS.Style
import KE.GoesMore
import HandS.NamedTupSort
import HandS.ExcOwn
import HandS.ExcCtx
import HandS.HotCalls
import HandS.Property
import HandS.ExcIs
import HandS.HeadWalk
import PySem.Challenge.RW_repeattasks_k18_logs_counted
set_option Elab.async false
set_option linter.all false
set_option maxRecDepth 100000
set_option maxHeartbeats 4000000

namespace Dt
open PySem PySem.Spec PyProof.Rows L2

theorem sqT_mono {K : PySem.W.Frag} {H H' : Hp} {a : Addr} {xs : List V} (e : Same H H') (h : SqT K H a xs) : SqT K H' a xs := by
  rcases h with (h | ⟨o, h⟩) | h
  · exact .inl (.inl (e _ _ h))
  · exact .inl (.inr ⟨o, e _ _ h⟩)
  · exact .inr h

mutual
/-- v stands for the datum, as the ghost heap G tells -/
inductive Rp (K : PySem.W.Frag) (G : Hp) : V → PyData → Prop
  | non : Rp K G .non .none
  | bl (b : Bool) : Rp K G (.bl b) (.bool b)
  | int (i : Int) : Rp K G (.int i) (.int i)
  | str (x : Str) : Rp K G (.str x) (.str x)
  | lst {a : Addr} {xs : List V} {ds : List PyData} : G a = some (.lst xs) → RpA K G xs ds → Rp K G (.ref a) (.list ds)
  | tup {a : Addr} {xs : List V} {ds : List PyData} : SqT K G a xs → RpA K G xs ds → Rp K G (.ref a) (.tuple ds)
inductive RpA (K : PySem.W.Frag) (G : Hp) : List V → List PyData → Prop
  | nil : RpA K G [] []
  | cons {v : V} {vs : List V} {d : PyData} {ds : List PyData} : Rp K G v d → RpA K G vs ds → RpA K G (v :: vs) (d :: ds)
end
section
variable {K : PySem.W.Frag} {G G' : Hp}
mutual
theorem Rp.mono (e : Same G G') : ∀ {v : V} {d : PyData}, Rp K G v d → Rp K G' v d
  | _, _, .non => .non
  | _, _, .bl b => .bl b
  | _, _, .int i => .int i
  | _, _, .str x => .str x
  | _, _, .lst h r => .lst (e _ _ h) (RpA.mono e r)
  | _, _, .tup h r => .tup (sqT_mono e h) (RpA.mono e r)
theorem RpA.mono (e : Same G G') : ∀ {vs : List V} {ds : List PyData}, RpA K G vs ds → RpA K G' vs ds
  | _, _, .nil => .nil
  | _, _, .cons h r => .cons (Rp.mono e h) (RpA.mono e r)
end
mutual
theorem Rp.dp : ∀ {v : V} {d : PyData}, Rp K G v d → Dp K G v d
  | _, _, .non => .non
  | _, _, .bl b => .bl b
  | _, _, .int i => .int i
  | _, _, .str x => .str x
  | _, _, .lst h r => .lst (SqL.of h) (RpA.dp r)
  | _, _, .tup h r => .tup h (RpA.dp r)
theorem RpA.dp : ∀ {vs : List V} {ds : List PyData}, RpA K G vs ds → DpAll K G vs ds
  | _, _, .nil => .nil
  | _, _, .cons h r => .cons (Rp.dp h) (RpA.dp r)
end
theorem RpA.len : ∀ {vs : List V} {ds : List PyData}, RpA K G vs ds → vs.length = ds.length
  | _, _, .nil => rfl
  | _, _, .cons _ r => by rw [List.length_cons, List.length_cons, RpA.len r]
theorem RpA.app : ∀ {vs us : List V} {ds es : List PyData}, RpA K G vs ds → RpA K G us es → RpA K G (vs ++ us) (ds ++ es)
  | _, _, _, _, .nil, s => s
  | _, _, _, _, .cons h r, s => .cons h (RpA.app r s)
theorem RpA.one {v : V} {d : PyData} (h : Rp K G v d) : RpA K G [v] [d] := .cons h .nil
theorem RpA.get : ∀ {vs : List V} {ds : List PyData} {i : Nat} {d : PyData}, RpA K G vs ds → ds[i]? = some d → ∃ v, vs[i]? = some v ∧ Rp K G v d
  | _, _, i, d, .nil, e => by simp at e
  | _, _, 0, d, .cons h _, e => by
    have e' := Option.some.inj e
    subst e'
    exact ⟨_, rfl, h⟩
  | _, _, i + 1, d, .cons _ r, e => RpA.get (i := i) r e
theorem RpA.getv : ∀ {vs : List V} {ds : List PyData} {i : Nat} {v : V}, RpA K G vs ds → vs[i]? = some v → ∃ d, ds[i]? = some d ∧ Rp K G v d
  | _, _, i, d, .nil, e => by simp at e
  | _, _, 0, d, .cons h _, e => by
    have e' := Option.some.inj e
    subst e'
    exact ⟨_, rfl, h⟩
  | _, _, i + 1, d, .cons _ r, e => RpA.getv (i := i) r e
theorem RpA.tk : ∀ {vs : List V} {ds : List PyData} (n : Nat), RpA K G vs ds → RpA K G (vs.take n) (ds.take n)
  | _, _, 0, _ => .nil
  | _, _, _ + 1, .nil => .nil
  | _, _, n + 1, .cons h r => .cons h (RpA.tk n r)
theorem RpA.dr : ∀ {vs : List V} {ds : List PyData} (n : Nat), RpA K G vs ds → RpA K G (vs.drop n) (ds.drop n)
  | _, _, 0, r => r
  | _, _, _ + 1, .nil => .nil
  | _, _, n + 1, .cons _ r => RpA.dr n r
theorem RpA.ints : ∀ {vs : List V} {ns : List Int}, RpA K G vs (ns.map PyData.int) → vs = ns.map V.int
  | _, [], .nil => rfl
  | _, n :: ns, .cons h r => by
    cases h
    rw [RpA.ints (ns := ns) r]
    rfl
theorem RpA.of_ints : ∀ (ns : List Int), RpA K G (ns.map V.int) (ns.map PyData.int)
  | [] => .nil
  | n :: ns => .cons (.int n) (RpA.of_ints ns)
theorem RpA.bls : ∀ {vs : List V} {bs : List Bool}, RpA K G vs (bs.map PyData.bool) → vs = bs.map V.bl
  | _, [], .nil => rfl
  | _, n :: ns, .cons h r => by
    cases h
    rw [RpA.bls (bs := ns) r]
    rfl
end

/-- a bag at b that may still be drawn from f times -/
def Bag (mb : Option Addr) (f : Nat) (H : Hp) : Prop := ∀ b, mb = some b → ∃ x y t : Int, H b = some (.lst [.int x, .int y, .int t]) ∧ (0 ≤ y ∧ y < 2305843009213693951) ∧ 0 ≤ t ∧ t + (f : Int) ≤ 4000000000
/-- no table of code objects -/
def NT : HO → Prop
  | .tbl _ => False
  | _ => True
theorem nt_ne {o : HO} (h : NT o) : ∀ ps, o ≠ .tbl ps := fun ps e => by
  rw [e] at h
  exact h
theorem tabS_mut {H : Hp} {p P : Addr} {q : Str} {o : HO} (t : LamX.TabS H P q) (hp : H p = none ∨ ∃ xs, H p = some (.lst xs)) : LamX.TabS (upd H p o) P q := by
  have ne : ∀ a u, H a = some u → (∀ xs, u ≠ .lst xs) → a ≠ p := fun a u e n z => by
    rw [z] at e
    rcases hp with h | ⟨xs, h⟩
    · rw [h] at e
      cases e
    · rw [h] at e
      cases e
      exact n xs rfl
  obtain ⟨ps, h1, h2, h3⟩ := t
  refine ⟨ps, by rw [upd_ne (ne _ _ h1 (fun _ z => by cases z))]; exact h1, h2, fun pos cv hc => ?_⟩
  obtain ⟨c, e1, e2⟩ := h3 pos cv hc
  exact ⟨c, e1, by rw [upd_ne (ne _ _ e2 (fun _ z => by unfold LamX.CodeO at z; cases z))]; exact e2⟩
/-- the names that the tables of code objects tell -/
class TabG where
  nm : Addr → Str
instance (priority := low) TabG.any : TabG := ⟨fun _ => ""⟩
variable [TabG]
/-- from (G, H) to (G', H'): what is known stays known, what stood stands (but the bag), what became known is new -/
structure Go (mb : Option Addr) (G H G' H' : Hp) : Prop where
  gg : Same G G'
  gh : Same G' H'
  hh : ∀ a o, mb ≠ some a → NT o → H a = some o → H' a = some o
  hd : ∀ a, H a ≠ none → H' a ≠ none
  nw : ∀ a o, G' a = some o → G a = some o ∨ H a = none
  tb : ∀ P, LamX.TabS H P (TabG.nm P) → LamX.TabS H' P (TabG.nm P)
theorem Go.refl {mb : Option Addr} {G H : Hp} (gh : Same G H) : Go mb G H G H := ⟨Same.refl G, gh, fun _ _ _ _ h => h, fun _ h => h, fun _ _ h => .inl h, fun _ h => h⟩
theorem Go.trans {mb : Option Addr} {G H G1 H1 G2 H2 : Hp} (a : Go mb G H G1 H1) (b : Go mb G1 H1 G2 H2) : Go mb G H G2 H2 :=
  ⟨a.gg.trans b.gg, b.gh, fun x o n t h => b.hh x o n t (a.hh x o n t h), fun x h => b.hd x (a.hd x h), fun x o h => by
    rcases b.nw x o h with h | h
    · exact a.nw x o h
    · right
      cases e : H x with
      | none => rfl
      | some u => exact absurd h (a.hd x (by rw [e]; exact Option.some_ne_none u)), fun x t => b.tb x (a.tb x t)⟩
theorem Go.pure {mb : Option Addr} {G H G' H' : Hp} (a : Go none G H G' H') : Go mb G H G' H' := ⟨a.gg, a.gh, fun x o _ t h => a.hh x o (fun z => nomatch z) t h, a.hd, a.nw, a.tb⟩
/-- the heap grew, nothing became known -/
theorem Go.grow {mb : Option Addr} {G H H' : Hp} (gh : Same G H) (s : Same H H') : Go mb G H G H' :=
  ⟨Same.refl G, gh.trans s, fun _ _ _ _ h => s _ _ h, fun a h => by
    cases e : H a with
    | none => exact absurd e h
    | some o =>
      rw [s a o e]
      exact Option.some_ne_none o, fun _ _ h => .inl h, fun _ t => t.ext s⟩
theorem same_new {H : Hp} {p : Addr} {o : HO} (h : H p = none) : Same H (upd H p o) := fun b x e => by
  rw [upd_ne (ne_of_none e h)]
  exact e
theorem same_none {G H : Hp} {p : Addr} (s : Same G H) (h : H p = none) : G p = none := by
  cases e : G p with
  | none => rfl
  | some o =>
    rw [s p o e] at h
    cases h
/-- a new object that becomes known -/
theorem Go.add {mb : Option Addr} {G H G' H' : Hp} (g : Go mb G H G' H') {p : Addr} {o : HO} (hp : H p = none) (gp : G' p = none) (hv : H' p = some o) : Go mb G H (upd G' p o) H' :=
  ⟨fun a x e => same_new gp a x (g.gg a x e), fun a x e => by
      by_cases ha : a = p
      · subst ha
        rw [upd_same] at e
        rw [hv]
        exact e
      · rw [upd_ne ha] at e
        exact g.gh a x e, g.hh, g.hd, fun a x e => by
      by_cases ha : a = p
      · subst ha
        exact .inr hp
      · rw [upd_ne ha] at e
        exact g.nw a x e, g.tb⟩
theorem Bag.same {mb : Option Addr} {f : Nat} {H H' : Hp} (b : Bag mb f H) (s : Same H H') : Bag mb f H' := fun a e => by
  obtain ⟨x, y, t, h, r⟩ := b a e
  exact ⟨x, y, t, s _ _ h, r⟩
theorem Bag.pur {mb : Option Addr} {f : Nat} {G H G' H' : Hp} (b : Bag mb f H) (g : Go none G H G' H') : Bag mb f H' := fun a e => by
  obtain ⟨x, y, t, h, r⟩ := b a e
  exact ⟨x, y, t, g.hh _ _ (fun z => nomatch z) trivial h, r⟩
theorem Bag.le {mb : Option Addr} {f f' : Nat} {H : Hp} (b : Bag mb f H) (l : f' ≤ f) : Bag mb f' H := fun a e => by
  obtain ⟨x, y, t, h, r1, r2, r3⟩ := b a e
  exact ⟨x, y, t, h, r1, r2, by omega⟩
theorem Bag.no {f : Nat} {H : Hp} : Bag none f H := fun _ e => nomatch e

/-- what a slot holds: unknown, a datum, a list of its own that may still grow, a value of which something is known -/
inductive SV where
  | u
  | d (x : PyData)
  | l (xs : List PyData)
  | g (P : Hp → V → Prop)
/-- what is known of it stays so -/
def Mon (P : Hp → V → Prop) : Prop := ∀ (G1 G2 : Hp) (v : V), Same G1 G2 → P G1 v → P G2 v
abbrev Rho := List SV
/-- the script at a -/
def Scr (K : PySem.W.Frag) (G H : Hp) (a : Addr) (ns : List Int) : Prop := (G a = some (.lst (ns.map V.int)) ∨ ∃ o, H a = some (.frz o (.lst (ns.map V.int)))) ∨ ∀ H', SqL K H' a (ns.map V.int)
theorem Scr.seq {K : PySem.W.Frag} {G H : Hp} {a : Addr} {ns : List Int} (h : Scr K G H a ns) (gh : Same G H) : SqL K H a (ns.map V.int) := by
  rcases h with (h | ⟨o, h⟩) | h
  · exact SqL.of (gh _ _ h)
  · exact .inl (.inr ⟨o, h⟩)
  · exact h H
theorem Scr.mono {K : PySem.W.Frag} {G G' H H' : Hp} {a : Addr} {ns : List Int} (h : Scr K G H a ns) (gg : Same G G') (k : ∀ o, H a = some (.frz o (.lst (ns.map V.int))) → H' a = some (.frz o (.lst (ns.map V.int)))) : Scr K G' H' a ns := by
  rcases h with (h | ⟨o, h⟩) | h
  · exact .inl (.inl (gg _ _ h))
  · exact .inl (.inr ⟨o, k o h⟩)
  · exact .inr h
/-- the tables of code objects that a def with lambdas knows of -/
class TabC where
  T : List Addr
instance (priority := low) TabC.nil : TabC := ⟨[]⟩
def TabsT [TabC] (G H : Hp) : Prop := ∀ P ∈ TabC.T, LamX.TabS H P (TabG.nm P) ∧ G P = none
theorem tabs_nil {G H : Hp} : @TabsT _ TabC.nil G H := fun P h => absurd (show P ∈ ([] : List Addr) from h) (by simp)
theorem tabs_go [TabC] {mb : Option Addr} {G H G' H' : Hp} (t : TabsT G H) (g : Go mb G H G' H') : TabsT G' H' := fun P h => ⟨g.tb _ (t P h).1, by
  cases e : G' P with
  | none => rfl
  | some o =>
    obtain ⟨⟨ps, h1, _⟩, h2⟩ := t P h
    rcases g.nw P o e with z | z
    · rw [h2] at z; cases z
    · rw [h1] at z; cases z⟩
/-- the state: G known, H the heap, σ the slots -/
structure Stt [TabC] (K : PySem.W.Frag) (mb : Option Addr) (js : Nat) (pn : Option V) (G H : Hp) (f : Nat) (σ : L2.St) (ρ : Rho) : Prop where
  gh : Same G H
  gb : ∀ b, mb = some b → G b = none
  bi : Bag mb f H
  bj : ∀ b, mb = some b → σ[js]? = some (some (V.ref b))
  pj : ∀ v, pn = some v → σ[js]? = some (some v) ∧ mb = none ∧ ∃ (a : Addr) (ns : List Int), v = .ref a ∧ ns.length ≤ 63 ∧ Scr K G H a ns
  ln : σ.length = ρ.length
  ft : ∀ (i : Nat) (d : PyData), ρ[i]? = some (SV.d d) → ∃ v, σ[i]? = some (some v) ∧ Rp K G v d
  ow : ∀ (i : Nat) (ds : List PyData), ρ[i]? = some (SV.l ds) → ∃ p vs, σ[i]? = some (some (V.ref p)) ∧ G p = none ∧ H p = some (.lst vs) ∧ RpA K G vs ds ∧ mb ≠ some p
  sp : ∀ (i j : Nat) (ds es : List PyData) (p : Addr), ρ[i]? = some (SV.l ds) → ρ[j]? = some (SV.l es) → σ[i]? = some (some (V.ref p)) → σ[j]? = some (some (V.ref p)) → i = j
  gf : ∀ (i : Nat) (P : Hp → V → Prop), ρ[i]? = some (SV.g P) → Mon P ∧ ∃ v, σ[i]? = some (some v) ∧ P G v
  tk : TabsT G H
section
variable [TabC] {K : PySem.W.Frag} {mb : Option Addr} {js : Nat} {pn : Option V} {G H G' H' : Hp} {f f' : Nat} {σ : L2.St} {ρ : Rho}
theorem Go.bagNone (g : Go mb G H G' H') (bi : Bag mb f H) {b : Addr} (e : mb = some b) (h : G b = none) : G' b = none := by
  cases q : G' b with
  | none => rfl
  | some o =>
    rcases g.nw b o q with z | z
    · rw [h] at z
      cases z
    · obtain ⟨x, y, t, hb, _⟩ := bi b e
      rw [hb] at z
      cases z
theorem Stt.go (S : Stt K mb js pn G H f σ ρ) (g : Go mb G H G' H') (b : Bag mb f' H') : Stt K mb js pn G' H' f' σ ρ where
  gh := g.gh
  gb := fun x e => g.bagNone S.bi e (S.gb x e)
  bi := b
  bj := S.bj
  pj := fun v e => by
    obtain ⟨h1, h2, a, ns, h3, h4, h5⟩ := S.pj v e
    exact ⟨h1, h2, a, ns, h3, h4, h5.mono g.gg fun o hx => g.hh a _ (by rw [h2]; intro z; cases z) trivial hx⟩
  ln := S.ln
  ft := fun i d e => by
    obtain ⟨v, h1, h2⟩ := S.ft i d e
    exact ⟨v, h1, h2.mono g.gg⟩
  ow := fun i ds e => by
    obtain ⟨p, vs, h1, h2, h3, h4, h5⟩ := S.ow i ds e
    refine ⟨p, vs, h1, ?_, g.hh p _ h5 trivial h3, h4.mono g.gg, h5⟩
    cases q : G' p with
    | none => rfl
    | some o =>
      rcases g.nw p o q with z | z
      · rw [h2] at z
        cases z
      · rw [h3] at z
        cases z
  sp := S.sp
  gf := fun i P e => by
    obtain ⟨m, v, h1, h2⟩ := S.gf i P e
    exact ⟨m, v, h1, m _ _ _ g.gg h2⟩
  tk := tabs_go S.tk g
/-- the same state, forgetting what became known -/
theorem Stt.keep (S : Stt K mb js pn G H f σ ρ) (g : Go mb G H G' H') (b : Bag mb f' H') : Stt K mb js pn G H' f' σ ρ :=
  S.go (G' := G) ⟨Same.refl G, g.gg.trans g.gh, g.hh, g.hd, fun _ _ h => .inl h, g.tb⟩ b

/-- borrowed: lists of one's own are read -/
def bo : SV → SV
  | .l ds => .d (.list ds)
  | x => x
@[reducible] def vw (ρ : Rho) : Rho := ρ.map bo
/-- the ghost with the lists of one's own -/
noncomputable def Gp (σ : L2.St) (ρ : Rho) (G H : Hp) : Hp := fun a => by
  classical
  exact if ∃ (i : Nat) (ds : List PyData), ρ[i]? = some (SV.l ds) ∧ σ[i]? = some (some (V.ref a)) then H a else G a
theorem Stt.gp_same (S : Stt K mb js pn G H f σ ρ) : Same G (Gp σ ρ G H) := fun a o e => by
  unfold Gp
  split
  · exact S.gh a o e
  · exact e
theorem Stt.gp_heap (S : Stt K mb js pn G H f σ ρ) : Same (Gp σ ρ G H) H := fun a o e => by
  unfold Gp at e
  split at e
  · exact e
  · exact S.gh a o e
theorem Stt.gp_own (S : Stt K mb js pn G H f σ ρ) {i : Nat} {ds : List PyData} {a : Addr} (h : ρ[i]? = some (SV.l ds)) (h' : σ[i]? = some (some (V.ref a))) : Gp σ ρ G H a = H a := by
  unfold Gp
  rw [if_pos ⟨i, ds, h, h'⟩]
theorem vw_get {ρ : Rho} {i : Nat} : (vw ρ)[i]? = (ρ[i]?).map bo := List.getElem?_map
theorem Stt.borrow (S : Stt K mb js pn G H f σ ρ) : Stt K mb js pn (Gp σ ρ G H) H f σ (vw ρ) where
  gh := S.gp_heap
  gb := fun b e => by
    unfold Gp
    split
    · rename_i h
      obtain ⟨i, ds, h1, h2⟩ := h
      obtain ⟨p, vs, h3, _, _, _, h5⟩ := S.ow i ds h1
      rw [h2] at h3
      cases h3
      exact absurd e h5
    · exact S.gb b e
  bi := S.bi
  bj := S.bj
  pj := fun v e => by
    obtain ⟨h1, h2, a, ns, h3, h4, h5⟩ := S.pj v e
    exact ⟨h1, h2, a, ns, h3, h4, h5.mono S.gp_same fun _ h => h⟩
  ln := by rw [S.ln, List.length_map]
  ft := fun i d e => by
    rw [vw_get] at e
    cases q : ρ[i]? with
    | none =>
      rw [q] at e
      cases e
    | some s =>
      rw [q] at e
      cases s with
      | u => cases e
      | d x =>
        have e' : x = d := by
          have := Option.some.inj e
          cases this
          rfl
        subst e'
        obtain ⟨v, h1, h2⟩ := S.ft i x q
        exact ⟨v, h1, h2.mono S.gp_same⟩
      | l ds =>
        have e' : PyData.list ds = d := by
          have := Option.some.inj e
          cases this
          rfl
        subst e'
        obtain ⟨p, vs, h1, h2, h3, h4, h5⟩ := S.ow i ds q
        exact ⟨_, h1, .lst (by rw [S.gp_own q h1]; exact h3) (h4.mono S.gp_same)⟩
      | g P => cases e
  ow := fun i ds e => by
    rw [vw_get] at e
    cases q : ρ[i]? with
    | none =>
      rw [q] at e
      cases e
    | some s =>
      rw [q] at e
      cases s <;> cases e
  sp := fun i j ds es p e => by
    rw [vw_get] at e
    cases q : ρ[i]? with
    | none =>
      rw [q] at e
      cases e
    | some s =>
      rw [q] at e
      cases s <;> cases e
  gf := fun i P e => by
    rw [vw_get] at e
    cases q : ρ[i]? with
    | none =>
      rw [q] at e
      cases e
    | some s =>
      rw [q] at e
      cases s with
      | g P' =>
        cases e
        obtain ⟨m, v, h1, h2⟩ := S.gf i P q
        exact ⟨m, v, h1, m _ _ _ S.gp_same h2⟩
      | _ => cases e
  tk := fun P h => ⟨(S.tk P h).1, by
    obtain ⟨⟨ps, h1, _⟩, h2⟩ := S.tk P h
    unfold Gp
    split
    · rename_i z
      obtain ⟨i, ds, e1, e2⟩ := z
      obtain ⟨p, vs, e3, _, e4, _⟩ := S.ow i ds e1
      rw [e2] at e3
      cases e3
      rw [h1] at e4
      cases e4
    · exact h2⟩
/-- behind a borrowed evaluation of which nothing is kept -/
theorem Stt.back (S : Stt K mb js pn G H f σ ρ) (g : Go mb (Gp σ ρ G H) H G' H') (b : Bag mb f' H') : Stt K mb js pn G H' f' σ ρ :=
  S.go (G' := G) ⟨Same.refl G, S.gp_same.trans (g.gg.trans g.gh), g.hh, g.hd, fun _ _ h => .inl h, g.tb⟩ b
end
end Dt
namespace Dt
open PySem PySem.Spec PyProof.Rows L2
variable [TabG]
section TC
variable [TabC]
abbrev DE := Rho → Nat → (PyData → Nat → Prop) → Prop
abbrev DT := Rho → Nat → (Bool → Nat → Prop) → Prop
abbrev DA := Rho → Nat → (List PyData → Nat → Prop) → Prop
abbrev R2D := PyData → PyData → (PyData → Prop) → Prop
abbrev RCD := List PyData → (PyData → Prop) → Prop

def Sim (K : PySem.W.Frag) (mb : Option Addr) (js : Nat) (pn : Option V) (te : TE) (de : DE) : Prop := ∀ (G H : Hp) (f : Nat) (σ : L2.St) (ρ : Rho) (P : PyData → Nat → Prop), Stt K mb js pn G H f σ ρ → de ρ f P →
  ∀ Q : VK, (∀ v d f' G' H', Go mb G H G' H' → Bag mb f' H' → Rp K G' v d → P d f' → Q v H') → te σ H Q
/-- the value is a new list that nobody else knows -/
def SimN (K : PySem.W.Frag) (mb : Option Addr) (js : Nat) (pn : Option V) (te : TE) (dn : DA) : Prop := ∀ (G H : Hp) (f : Nat) (σ : L2.St) (ρ : Rho) (P : List PyData → Nat → Prop), Stt K mb js pn G H f σ ρ → dn ρ f P →
  ∀ Q : VK, (∀ p vs ds f' G' H', Go mb G H G' H' → Bag mb f' H' → H p = none → G' p = none → H' p = some (.lst vs) → RpA K G' vs ds → P ds f' → Q (.ref p) H') → te σ H Q
def SimT (K : PySem.W.Frag) (mb : Option Addr) (js : Nat) (pn : Option V) (tt : TT) (dt : DT) : Prop := ∀ (G H : Hp) (f : Nat) (σ : L2.St) (ρ : Rho) (P : Bool → Nat → Prop), Stt K mb js pn G H f σ ρ → dt ρ f P →
  ∀ Q : Bool → Hp → Prop, (∀ b f' G' H', Go mb G H G' H' → Bag mb f' H' → P b f' → Q b H') → tt σ H Q
def SimA (K : PySem.W.Frag) (mb : Option Addr) (js : Nat) (pn : Option V) (n : Nat) (ta : TA) (da : DA) : Prop := ∀ (G H : Hp) (f : Nat) (σ : L2.St) (ρ : Rho) (P : List PyData → Nat → Prop), Stt K mb js pn G H f σ ρ → da ρ f P →
  ∀ Q : List V → Hp → Prop, (∀ vs ds f' G' H', ds.length = n → Go mb G H G' H' → Bag mb f' H' → RpA K G' vs ds → P ds f' → Q vs H') → ta σ H Q
def Sim2 (K : PySem.W.Frag) (r2 : R2) (r : R2D) : Prop := ∀ (G H : Hp) (x y : V) (d e : PyData) (P : PyData → Prop), Same G H → Rp K G x d → Rp K G y e → r d e P →
  ∀ Q : VK, (∀ v z G' H', Go none G H G' H' → Rp K G' v z → P z → Q v H') → r2 x y H Q
def SimC (K : PySem.W.Frag) (rc : List V → Hp → VK → Prop) (r : RCD) : Prop := ∀ (G H : Hp) (xs : List V) (ds : List PyData) (P : PyData → Prop), Same G H → RpA K G xs ds → r ds P →
  ∀ Q : VK, (∀ v z G' H', Go none G H G' H' → Rp K G' v z → P z → Q v H') → rc xs H Q
def SimCN (K : PySem.W.Frag) (rc : List V → Hp → VK → Prop) (r : List PyData → (List PyData → Prop) → Prop) : Prop := ∀ (G H : Hp) (xs : List V) (ds : List PyData) (P : List PyData → Prop), Same G H → RpA K G xs ds → r ds P →
  ∀ Q : VK, (∀ p vs es G' H', Go none G H G' H' → H p = none → G' p = none → H' p = some (.lst vs) → RpA K G' vs es → P es → Q (.ref p) H') → rc xs H Q

structure XE (X : Cx) (mb : Option Addr) (js : Nat) (pn : Option V) (e : Expr) (te : TE) (de : DE) : Prop where
  pe : PE X e te
  sm : Sim X.K mb js pn te de
structure XN (X : Cx) (mb : Option Addr) (js : Nat) (pn : Option V) (e : Expr) (te : TE) (dn : DA) : Prop where
  pe : PE X e te
  sm : SimN X.K mb js pn te dn
structure XT (X : Cx) (mb : Option Addr) (js : Nat) (pn : Option V) (e : Expr) (tt : TT) (dt : DT) : Prop where
  pe : PT X e tt
  sm : SimT X.K mb js pn tt dt
structure XW (X : Cx) (mb : Option Addr) (js : Nat) (pn : Option V) (e : Expr) (tt : TT) (dt : DT) : Prop where
  pe : PW X e tt
  sm : SimT X.K mb js pn tt dt
structure XA (X : Cx) (mb : Option Addr) (js : Nat) (pn : Option V) (es : List Expr) (n : Nat) (ta : TA) (da : DA) : Prop where
  pe : PA X es ta
  sm : SimA X.K mb js pn n ta da
theorem XW.t {X : Cx} {mb : Option Addr} {js : Nat} {pn : Option V} {e : Expr} {tt : TT} {dt : DT} (h : XW X mb js pn e tt dt) : XT X mb js pn e tt dt := ⟨h.pe.pt, h.sm⟩

def dVar (i : Nat) : DE := fun ρ f P => match ρ[i]? with
  | some (SV.d x) => P x f
  | _ => False
def dC (x : PyData) : DE := fun _ f P => P x f
def dL (n : DA) : DE := fun ρ f P => n ρ f fun ds f' => P (.list ds) f'
def dOp (r : R2D) (a b : DE) : DE := fun ρ f P => a ρ f fun x f1 => b ρ f1 fun y f2 => r x y fun z => P z f2
def dNil : DA := fun _ f P => P [] f
def dCons (a : DE) (r : DA) : DA := fun ρ f P => a ρ f fun x f1 => r ρ f1 fun xs f2 => P (x :: xs) f2
def dTup (a : DA) : DE := fun ρ f P => a ρ f fun ds f1 => P (.tuple ds) f1
def dLst (a : DA) : DA := a
def dB (a : DE) : DT := fun ρ f P => a ρ f fun x f1 => match x with
  | .bool b => P b f1
  | _ => False
def dAnd (a b : DT) : DT := fun ρ f P => a ρ f fun c f1 => if c = true then b ρ f1 P else P false f1
def dOr (a b : DT) : DT := fun ρ f P => a ρ f fun c f1 => if c = true then P true f1 else b ρ f1 P
def dNot (a : DT) : DT := fun ρ f P => a ρ f fun c f1 => P (!c) f1
def dAndV (a b : DE) : DE := fun ρ f P => dB a ρ f fun c f1 => if c = true then b ρ f1 P else P (.bool false) f1
def dOrV (a b : DE) : DE := fun ρ f P => dB a ρ f fun c f1 => if c = true then P (.bool true) f1 else b ρ f1 P
def dNotV (a : DE) : DE := fun ρ f P => dB a ρ f fun c f1 => P (.bool !c) f1
def dIfE (t : DT) (a b : DE) : DE := fun ρ f P => t ρ f fun c f1 => if c = true then a ρ f1 P else b ρ f1 P
def dCB (r : RCD) (a : DA) : DE := fun ρ f P => a ρ f fun ds f1 => r ds fun z => P z f1
def dCBN (r : List PyData → (List PyData → Prop) → Prop) (a : DA) : DA := fun ρ f P => a ρ f fun ds f1 => r ds fun z => P z f1
def dUn (r : PyData → (PyData → Prop) → Prop) (a : DE) : DE := fun ρ f P => a ρ f fun x f1 => r x fun z => P z f1
def dChain (r r' : R2D) (a b c : DE) : DE := fun ρ f P => a ρ f fun x f1 => b ρ f1 fun y f2 => r x y fun z => match z with
  | .bool k => if k = true then c ρ f2 fun w f3 => r' y w fun z => P z f3 else P (.bool false) f2
  | _ => False

section
variable {X : Cx} {mb : Option Addr} {js : Nat} {pn : Option V} {a b c e : Expr} {es : List Expr} {ta tb tc te : TE} {tt tu : TT} {tas : TA} {da db dc de : DE} {dt du : DT} {das dn : DA} {pos : Pos} {n : Nat}

theorem XN.ev (h : XN X mb js pn e te dn) : XE X mb js pn e te (dL dn) := ⟨h.pe, fun G H f σ ρ P S q Q k => h.sm G H f σ ρ _ S q Q fun p vs ds f' G' H' g bg hp gp hv r pd =>
  k (.ref p) (.list ds) f' (upd G' p (.lst vs)) H' (g.add hp gp hv) bg (.lst upd_same (r.mono (same_new gp))) pd⟩

theorem xe_var (i : Nat) {x : Str} (hN : X.N[i]? = some x := by rfl) (hv : Vis X.env.scope x := by first | exact Or.inl rfl | exact Or.inr (Or.inl rfl) | exact Or.inr (Or.inr rfl)) (hd : (x == ("__debug__" : Str)) = false := by decide)
    (hcd : (x == ("__classdict__" : Str)) = false := by decide) : XE X mb js pn (.Name x pos) (tVar i) (dVar i) := ⟨pe_var hN hv hd hcd, fun G H f σ ρ P S q Q k => by
  unfold dVar at q
  split at q
  · rename_i d hd
    obtain ⟨v, h1, h2⟩ := S.ft i d hd
    exact ⟨v, h1, k v d f G H (Go.refl S.gh) S.bi h2 q⟩
  · exact q.elim⟩
theorem sim_c {K : PySem.W.Frag} {v : V} {d : PyData} (h : ∀ G, Rp K G v d) : Sim K mb js pn (tC v) (dC d) := fun G H f σ ρ P S q Q k => k v d f G H (Go.refl S.gh) S.bi (h G) q
theorem xe_int {i : Int} {j} : XE X mb js pn (.Constant (.int i) j pos) (tC (.int i)) (dC (.int i)) := ⟨pe_int, sim_c fun _ => .int i⟩
theorem xe_str {x : Str} {j} : XE X mb js pn (.Constant (.str x) j pos) (tC (.str x)) (dC (.str x)) := ⟨pe_str, sim_c fun _ => .str x⟩
theorem xe_bool {k : Bool} {j} : XE X mb js pn (.Constant (.bool k) j pos) (tC (.bl k)) (dC (.bool k)) := ⟨pe_bl, sim_c fun _ => .bl k⟩
theorem xe_none {j} : XE X mb js pn (.Constant .none j pos) (tC .non) (dC .none) := ⟨pe_non, sim_c fun _ => .non⟩
theorem xe_glob {x : Str} {v : V} {u : Value} {d : PyData} (hg : Gl X x) (hm : X.mg x = some u) (r : RelV v u) (h : ∀ G, Rp X.K G v d) (hd : (x == ("__debug__" : Str)) = false := by decide) : XE X mb js pn (.Name x pos) (tC v) (dC d) := ⟨pe_glob hg hm r hd, sim_c h⟩

theorem xe_globI {x : Str} {i : Int} {t : Tok} (hm : X.mg x = some (.int i t)) (hg : Gl X x) (hd : (x == ("__debug__" : Str)) = false := by decide) : XE X mb js pn (.Name x pos) (tC (.int i)) (dC (.int i)) := xe_glob hg hm ⟨_, rfl⟩ (fun _ => .int _) hd
theorem xe_globT {x : Str} {a : Addr} {d : PyData} (hm : X.mg x = some (.ref a)) (h : ∀ G, Rp X.K G (.ref a) d) (hg : Gl X x) (hd : (x == ("__debug__" : Str)) = false := by decide) : XE X mb js pn (.Name x pos) (tC (.ref a)) (dC d) := xe_glob hg hm rfl h hd
theorem Sim.two {K : PySem.W.Frag} {ta tb : TE} {da db : DE} (ha : Sim K mb js pn ta da) (hb : Sim K mb js pn tb db) {G H : Hp} {f : Nat} {σ : L2.St} {ρ : Rho} {P : PyData → PyData → Nat → Prop} (S : Stt K mb js pn G H f σ ρ)
    (q : da ρ f fun x f1 => db ρ f1 fun y f2 => P x y f2) {R : V → V → Hp → Prop} (k : ∀ v u x y f' G' H', Go mb G H G' H' → Bag mb f' H' → Rp K G' v x → Rp K G' u y → P x y f' → R v u H') : ta σ H fun v H1 => tb σ H1 fun u H2 => R v u H2 :=
  ha G H f σ ρ _ S q _ fun v x f1 G1 H1 g1 b1 r1 q1 => hb G1 H1 f1 σ ρ _ (S.go g1 b1) q1 _ fun u y f2 G2 H2 g2 b2 r2 q2 => k v u x y f2 G2 H2 (g1.trans g2) b2 (r1.mono g2.gg) r2 q2
theorem sim_op {K : PySem.W.Frag} {r2 : R2} {r : R2D} (h : Sim2 K r2 r) (ha : Sim K mb js pn ta da) (hb : Sim K mb js pn tb db) : Sim K mb js pn (tOp r2 ta tb) (dOp r da db) := fun G H f σ ρ P S q Q k =>
  Sim.two ha hb S q fun v u x y f' G' H' g bg r1 r2' q' => h G' H' v u x y _ g.gh r1 r2' q' Q fun z d G2 H2 g2 r3 p => k z d f' G2 H2 (g.trans g2.pure) (bg.pur g2) r3 p
theorem xe_op {op : Operator} {r2 : R2} {r : R2D} (ho : OpR X (binaryOp op) r2) (h : Sim2 X.K r2 r) (ha : XE X mb js pn a ta da) (hb : XE X mb js pn b tb db) : XE X mb js pn (.BinOp a op b pos) (tOp r2 ta tb) (dOp r da db) :=
  ⟨pe_op ho ha.pe hb.pe, sim_op h ha.sm hb.sm⟩
theorem xe_cmp {op : CmpOp} {r2 : R2} {r : R2D} (ho : OpR X (compareOp op) r2) (h : Sim2 X.K r2 r) (ha : XE X mb js pn a ta da) (hb : XE X mb js pn b tb db) (hm : behindInMarks op b = false) : XE X mb js pn (.Compare a [op] [b] pos) (tOp r2 ta tb) (dOp r da db) :=
  ⟨pe_cmpR ho ha.pe hb.pe hm, sim_op h ha.sm hb.sm⟩
theorem sim_test (h : Sim X.K mb js pn te de) : SimT X.K mb js pn (tTest te) (dB de) := fun G H f σ ρ P S q Q k => h G H f σ ρ _ S q _ fun v d f' G' H' g bg r p => by
  cases r <;> first
    | exact p.elim
    | exact ⟨_, rfl, k _ f' G' H' g bg p⟩
theorem xt_cmp {op : CmpOp} {r2 : R2} {r : R2D} (ho : OpR X (compareOp op) r2) (h : Sim2 X.K r2 r) (ha : XE X mb js pn a ta da) (hb : XE X mb js pn b tb db) (hm : behindInMarks op b = false) : XT X mb js pn (.Compare a [op] [b] pos) (tTest (tOp r2 ta tb)) (dB (dOp r da db)) :=
  ⟨pt_cmpR ho ha.pe hb.pe hm, sim_test (sim_op h ha.sm hb.sm)⟩
theorem xt_val (h : XE X mb js pn e te de) (he : ∀ whole, isTrue e X.env whole = (do let v ← whole; standAt e.pos; holding [v] (truthy v)) := by intro _; rfl) : XT X mb js pn e (tB te) (dB de) := ⟨pt_val h.pe he, sim_test h.sm⟩
theorem sim_chain {K : PySem.W.Frag} {r2 r2' : R2} {r r' : R2D} (h : Sim2 K r2 r) (h' : Sim2 K r2' r') (ha : Sim K mb js pn ta da) (hb : Sim K mb js pn tb db) (hc : Sim K mb js pn tc dc) : Sim K mb js pn (tChain r2 r2' ta tb tc) (dChain r r' da db dc) := fun G H f σ ρ P S q Q k =>
  Sim.two ha hb S q fun v u x y f' G' H' g bg r1 r2' q' => h G' H' v u x y _ g.gh r1 r2' q' _ fun z d G2 H2 g2 r3 p => by
    have S2 := S.go (g.trans g2.pure) (bg.pur g2)
    cases r3 <;> first
      | exact p.elim
      | (rename_i kk
         refine ⟨kk, rfl, ?_⟩
         cases kk with
         | true =>
           rw [if_pos rfl]
           exact hc G2 H2 f' σ ρ _ S2 p _ fun w dw f3 G3 H3 g3 b3 rw p3 => h' G3 H3 u w y dw _ g3.gh (r2'.mono (g2.gg.trans g3.gg)) rw p3 Q fun z' d' G4 H4 g4 r4 p4 => k z' d' f3 G4 H4 (((g.trans g2.pure).trans g3).trans g4.pure) (b3.pur g4) r4 p4
         | false =>
           rw [if_neg Bool.false_ne_true]
           exact k _ (.bool false) f' G2 H2 (g.trans g2.pure) (bg.pur g2) (.bl false) p)
theorem xe_chain {op op' : CmpOp} {r2 r2' : R2} {r r' : R2D} (ho : OpR X (compareOp op) r2) (h : Sim2 X.K r2 r) (ho' : OpR X (compareOp op') r2') (h' : Sim2 X.K r2' r') (ha : XE X mb js pn a ta da) (hb : XE X mb js pn b tb db) (hc : XE X mb js pn c tc dc)
    (hm : lastMarks [op, op'] [b, c] = false := by with_unfolding_all rfl) : XE X mb js pn (.Compare a [op, op'] [b, c] pos) (tChain r2 r2' ta tb tc) (dChain r r' da db dc) := ⟨pe_chain ho ho' ha.pe hb.pe hc.pe hm, sim_chain h h' ha.sm hb.sm hc.sm⟩
theorem xt_chain {op op' : CmpOp} {r2 r2' : R2} {r r' : R2D} (ho : OpR X (compareOp op) r2) (h : Sim2 X.K r2 r) (ho' : OpR X (compareOp op') r2') (h' : Sim2 X.K r2' r') (ha : XE X mb js pn a ta da) (hb : XE X mb js pn b tb db) (hc : XE X mb js pn c tc dc)
    (hm : lastMarks [op, op'] [b, c] = false := by with_unfolding_all rfl) : XT X mb js pn (.Compare a [op, op'] [b, c] pos) (tTest (tChain r2 r2' ta tb tc)) (dB (dChain r r' da db dc)) := ⟨pt_chain ho ho' ha.pe hb.pe hc.pe hm, sim_test (sim_chain h h' ha.sm hb.sm hc.sm)⟩

theorem sim_and {K : PySem.W.Frag} (ha : SimT K mb js pn tt dt) (hb : SimT K mb js pn tu du) : SimT K mb js pn (tAnd tt tu) (dAnd dt du) := fun G H f σ ρ P S q Q k =>
  ha G H f σ ρ _ S q _ fun c f1 G1 H1 g1 b1 q1 => by
    cases c with
    | true =>
      rw [if_pos rfl] at q1 ⊢
      exact hb G1 H1 f1 σ ρ _ (S.go g1 b1) q1 Q fun c2 f2 G2 H2 g2 b2 q2 => k c2 f2 G2 H2 (g1.trans g2) b2 q2
    | false =>
      rw [if_neg Bool.false_ne_true] at q1 ⊢
      exact k false f1 G1 H1 g1 b1 q1
theorem sim_or {K : PySem.W.Frag} (ha : SimT K mb js pn tt dt) (hb : SimT K mb js pn tu du) : SimT K mb js pn (tOr tt tu) (dOr dt du) := fun G H f σ ρ P S q Q k =>
  ha G H f σ ρ _ S q _ fun c f1 G1 H1 g1 b1 q1 => by
    cases c with
    | false =>
      rw [if_neg Bool.false_ne_true] at q1 ⊢
      exact hb G1 H1 f1 σ ρ _ (S.go g1 b1) q1 Q fun c2 f2 G2 H2 g2 b2 q2 => k c2 f2 G2 H2 (g1.trans g2) b2 q2
    | true =>
      rw [if_pos rfl] at q1 ⊢
      exact k true f1 G1 H1 g1 b1 q1
theorem xw_and1 (ha : XT X mb js pn a tt dt) : XW X mb js pn (.BoolOp .And [a] pos) tt dt := ⟨pw_and1 ha.pe, ha.sm⟩
theorem xw_or1 (ha : XT X mb js pn a tt dt) : XW X mb js pn (.BoolOp .Or [a] pos) tt dt := ⟨pw_or1 ha.pe, ha.sm⟩
theorem xw_and (ha : XT X mb js pn a tt dt) (hb : XW X mb js pn (.BoolOp .And (b :: es) pos) tu du) : XW X mb js pn (.BoolOp .And (a :: b :: es) pos) (tAnd tt tu) (dAnd dt du) := ⟨pw_and ha.pe hb.pe, sim_and ha.sm hb.sm⟩
theorem xw_or (ha : XT X mb js pn a tt dt) (hb : XW X mb js pn (.BoolOp .Or (b :: es) pos) tu du) : XW X mb js pn (.BoolOp .Or (a :: b :: es) pos) (tOr tt tu) (dOr dt du) := ⟨pw_or ha.pe hb.pe, sim_or ha.sm hb.sm⟩
theorem xt_not (ha : XT X mb js pn a tt dt) : XT X mb js pn (.UnaryOp .Not a pos) (tNot tt) (dNot dt) := ⟨pt_not ha.pe, fun G H f σ ρ P S q Q k => ha.sm G H f σ ρ _ S q _ fun c f1 G1 H1 g1 b1 q1 => k (!c) f1 G1 H1 g1 b1 q1⟩
theorem sim_bool {K : PySem.W.Frag} (h : Sim K mb js pn te de) {G H : Hp} {f : Nat} {σ : L2.St} {ρ : Rho} {P : Bool → Nat → Prop} (S : Stt K mb js pn G H f σ ρ) (q : dB de ρ f P) {R : Bool → Hp → Prop}
    (k : ∀ c f' G' H', Go mb G H G' H' → Bag mb f' H' → P c f' → R c H') : te σ H fun x H1 => ∃ c, x = .bl c ∧ R c H1 := h G H f σ ρ _ S q _ fun v d f' G' H' g bg r p => by
  cases r <;> first
    | exact p.elim
    | exact ⟨_, rfl, k _ f' G' H' g bg p⟩
theorem xe_and (ha : XE X mb js pn a ta da) (hb : XE X mb js pn (.BoolOp .And (b :: es) pos) tb db) : XE X mb js pn (.BoolOp .And (a :: b :: es) pos) (tAndV ta tb) (dAndV da db) := ⟨pe_and ha.pe hb.pe, fun G H f σ ρ P S q Q k =>
  sim_bool ha.sm S q fun c f1 G1 H1 g1 b1 q1 => by
    cases c with
    | true =>
      rw [if_pos rfl] at q1 ⊢
      exact hb.sm G1 H1 f1 σ ρ _ (S.go g1 b1) q1 Q fun v d f2 G2 H2 g2 b2 r2 q2 => k v d f2 G2 H2 (g1.trans g2) b2 r2 q2
    | false =>
      rw [if_neg Bool.false_ne_true] at q1 ⊢
      exact k _ _ f1 G1 H1 g1 b1 (.bl false) q1⟩
theorem xe_or (ha : XE X mb js pn a ta da) (hb : XE X mb js pn (.BoolOp .Or (b :: es) pos) tb db) : XE X mb js pn (.BoolOp .Or (a :: b :: es) pos) (tOrV ta tb) (dOrV da db) := ⟨pe_or ha.pe hb.pe, fun G H f σ ρ P S q Q k =>
  sim_bool ha.sm S q fun c f1 G1 H1 g1 b1 q1 => by
    cases c with
    | false =>
      rw [if_neg Bool.false_ne_true] at q1 ⊢
      exact hb.sm G1 H1 f1 σ ρ _ (S.go g1 b1) q1 Q fun v d f2 G2 H2 g2 b2 r2 q2 => k v d f2 G2 H2 (g1.trans g2) b2 r2 q2
    | true =>
      rw [if_pos rfl] at q1 ⊢
      exact k _ _ f1 G1 H1 g1 b1 (.bl true) q1⟩
theorem xe_one {op} (h : XE X mb js pn a ta da) : XE X mb js pn (.BoolOp op [a] pos) ta da := ⟨pe_one h.pe, h.sm⟩
theorem xe_not (ha : XE X mb js pn a ta da) : XE X mb js pn (.UnaryOp .Not a pos) (tNotV ta) (dNotV da) := ⟨pe_not ha.pe, fun G H f σ ρ P S q Q k => sim_bool ha.sm S q fun c f1 G1 H1 g1 b1 q1 => k _ _ f1 G1 H1 g1 b1 (.bl !c) q1⟩
theorem xe_if (hc : XT X mb js pn c tt dt) (ha : XE X mb js pn a ta da) (hb : XE X mb js pn b tb db) : XE X mb js pn (.IfExp c a b pos) (tIf tt ta tb) (dIfE dt da db) := ⟨pe_ifExp hc.pe ha.pe hb.pe, fun G H f σ ρ P S q Q k =>
  hc.sm G H f σ ρ _ S q _ fun k1 f1 G1 H1 g1 b1 q1 => by
    cases k1 with
    | true =>
      rw [if_pos rfl] at q1 ⊢
      exact ha.sm G1 H1 f1 σ ρ _ (S.go g1 b1) q1 Q fun v d f2 G2 H2 g2 b2 r2 q2 => k v d f2 G2 H2 (g1.trans g2) b2 r2 q2
    | false =>
      rw [if_neg Bool.false_ne_true] at q1 ⊢
      exact hb.sm G1 H1 f1 σ ρ _ (S.go g1 b1) q1 Q fun v d f2 G2 H2 g2 b2 r2 q2 => k v d f2 G2 H2 (g1.trans g2) b2 r2 q2⟩

theorem xa_nil : XA X mb js pn [] 0 tNil dNil := ⟨pa_nil, fun G H f σ ρ P S q Q k => k [] [] f G H rfl (Go.refl S.gh) S.bi .nil q⟩
theorem xa_cons (ha : XE X mb js pn e te de) (hr : XA X mb js pn es n tas das) (hs : starEach (e :: es) X.env = (false, eval e X.env) :: starEach es X.env := by rfl) : XA X mb js pn (e :: es) (n + 1) (tCons te tas) (dCons de das) :=
  ⟨pa_cons ha.pe hr.pe hs, fun G H f σ ρ P S q Q k => ha.sm G H f σ ρ _ S q _ fun v d f1 G1 H1 g1 b1 r1 q1 => hr.sm G1 H1 f1 σ ρ _ (S.go g1 b1) q1 _ fun vs ds f2 G2 H2 l2 g2 b2 r2 q2 =>
    k (v :: vs) (d :: ds) f2 G2 H2 (by rw [List.length_cons, l2]) (g1.trans g2) b2 (.cons (r1.mono g2.gg) r2) q2⟩
theorem small_n {n m : Nat} (h : n = m) (hm : m ≤ 1000) : n ≤ sizeLine := by
  rw [sizeLine_eq]
  omega
theorem xe_tup {kk} (h : XA X mb js pn es n tas das) (hn : n ≤ 1000 := by decide) : XE X mb js pn (.Tuple es kk pos) (tTup tas) (dTup das) := ⟨pe_tup h.pe, fun G H f σ ρ P S q Q k =>
  h.sm G H f σ ρ _ S q _ fun vs ds f1 G1 H1 l1 g1 b1 r1 q1 => ⟨small_n (r1.len.trans l1) hn, fun p hp => by
    have gp : G1 p = none := same_none g1.gh hp
    have h0 : H p = none := by
      cases e : H p with
      | none => rfl
      | some o => exact absurd hp (g1.hd p (by rw [e]; exact Option.some_ne_none o))
    exact k (.ref p) (.tuple ds) f1 _ _ ((g1.trans (Go.grow g1.gh (same_new hp))).add (o := .tup vs) h0 gp upd_same) (b1.same (same_new hp)) (.tup (.inl (.inl upd_same)) (r1.mono (same_new gp))) q1⟩⟩
theorem xn_lst (h : XA X mb js pn es n tas das) (hn : n ≤ 1000 := by decide) : XN X mb js pn (.List es pos) (tLst tas) (dLst das) := ⟨pe_lst h.pe, fun G H f σ ρ P S q Q k =>
  h.sm G H f σ ρ _ S q _ fun vs ds f1 G1 H1 l1 g1 b1 r1 q1 => ⟨small_n (r1.len.trans l1) hn, fun p hp => by
    have gp : G1 p = none := same_none g1.gh hp
    have h0 : H p = none := by
      cases e : H p with
      | none => rfl
      | some o => exact absurd hp (g1.hd p (by rw [e]; exact Option.some_ne_none o))
    exact k p vs ds f1 G1 _ (g1.trans (Go.grow g1.gh (same_new hp))) (b1.same (same_new hp)) h0 gp upd_same r1 q1⟩⟩
/-- a built-in by its name -/
theorem xe_callB {x : Str} {p : Pos} {id : String} {r : List V → Hp → VK → Prop} {rd : RCD} (hc : CallR X (.builtin id) r) (h : SimC X.K r rd) (hg : Gl X x) (hm : X.mg x = none) (hv : bootBuiltins x = some (.builtin id)) (ha : XA X mb js pn (e :: es) n tas das) (hn : x ≠ "__name__" := by decide) (hdb : (x == ("__debug__" : Str)) = false := by decide)
    (he : starEach (e :: es) X.env = (false, eval e X.env) :: starEach es X.env := by rfl) (hpl : (backTo pos (starEach es X.env)).any (·.1) = false := by rfl) : XE X mb js pn (.Call (.Name x p) (e :: es) [] pos) (tCB r tas) (dCB rd das) :=
  ⟨pe_callB hc hg hm hv ha.pe hn hdb he hpl, fun G H f σ ρ P S q Q k => ha.sm G H f σ ρ _ S q _ fun vs ds f1 G1 H1 l1 g1 b1 r1 q1 => h G1 H1 vs ds _ g1.gh r1 q1 Q fun v z G2 H2 g2 r2 q2 => k v z f1 G2 H2 (g1.trans g2.pure) (b1.pur g2) r2 q2⟩
theorem xe_callTy {x : Str} {p : Pos} {T : String} {r : List V → Hp → VK → Prop} {rd : RCD} (hc : CallR X (.type T) r) (h : SimC X.K r rd) (hg : Gl X x) (hm : X.mg x = none) (hv : bootBuiltins x = some (.type T)) (ha : XA X mb js pn (e :: es) n tas das) (hn : x ≠ "__name__" := by decide) (hdb : (x == ("__debug__" : Str)) = false := by decide)
    (he : starEach (e :: es) X.env = (false, eval e X.env) :: starEach es X.env := by rfl) (hpl : (backTo pos (starEach es X.env)).any (·.1) = false := by rfl) : XE X mb js pn (.Call (.Name x p) (e :: es) [] pos) (tCB r tas) (dCB rd das) :=
  ⟨pe_callTy hc hg hm hv ha.pe hn hdb he hpl, fun G H f σ ρ P S q Q k => ha.sm G H f σ ρ _ S q _ fun vs ds f1 G1 H1 l1 g1 b1 r1 q1 => h G1 H1 vs ds _ g1.gh r1 q1 Q fun v z G2 H2 g2 r2 q2 => k v z f1 G2 H2 (g1.trans g2.pure) (b1.pur g2) r2 q2⟩
theorem xn_callB {x : Str} {p : Pos} {id : String} {r : List V → Hp → VK → Prop} {rd : List PyData → (List PyData → Prop) → Prop} (hc : CallR X (.builtin id) r) (h : SimCN X.K r rd) (hg : Gl X x) (hm : X.mg x = none) (hv : bootBuiltins x = some (.builtin id)) (ha : XA X mb js pn (e :: es) n tas das) (hn : x ≠ "__name__" := by decide) (hdb : (x == ("__debug__" : Str)) = false := by decide)
    (he : starEach (e :: es) X.env = (false, eval e X.env) :: starEach es X.env := by rfl) (hpl : (backTo pos (starEach es X.env)).any (·.1) = false := by rfl) : XN X mb js pn (.Call (.Name x p) (e :: es) [] pos) (tCB r tas) (dCBN rd das) :=
  ⟨pe_callB hc hg hm hv ha.pe hn hdb he hpl, fun G H f σ ρ P S q Q k => ha.sm G H f σ ρ _ S q _ fun vs ds f1 G1 H1 l1 g1 b1 r1 q1 => h G1 H1 vs ds _ g1.gh r1 q1 Q fun p vs es G2 H2 g2 hp gp hv r2 q2 => by
    have h0 : H p = none := by
      cases e : H p with
      | none => rfl
      | some o => exact absurd hp (g1.hd p (by rw [e]; exact Option.some_ne_none o))
    exact k p vs es f1 G2 H2 (g1.trans g2.pure) (b1.pur g2) h0 gp hv r2 q2⟩
theorem xn_callTy {x : Str} {p : Pos} {T : String} {r : List V → Hp → VK → Prop} {rd : List PyData → (List PyData → Prop) → Prop} (hc : CallR X (.type T) r) (h : SimCN X.K r rd) (hg : Gl X x) (hm : X.mg x = none) (hv : bootBuiltins x = some (.type T)) (ha : XA X mb js pn (e :: es) n tas das) (hn : x ≠ "__name__" := by decide) (hdb : (x == ("__debug__" : Str)) = false := by decide)
    (he : starEach (e :: es) X.env = (false, eval e X.env) :: starEach es X.env := by rfl) (hpl : (backTo pos (starEach es X.env)).any (·.1) = false := by rfl) : XN X mb js pn (.Call (.Name x p) (e :: es) [] pos) (tCB r tas) (dCBN rd das) :=
  ⟨pe_callTy hc hg hm hv ha.pe hn hdb he hpl, fun G H f σ ρ P S q Q k => ha.sm G H f σ ρ _ S q _ fun vs ds f1 G1 H1 l1 g1 b1 r1 q1 => h G1 H1 vs ds _ g1.gh r1 q1 Q fun p vs es G2 H2 g2 hp gp hv r2 q2 => by
    have h0 : H p = none := by
      cases e : H p with
      | none => rfl
      | some o => exact absurd hp (g1.hd p (by rw [e]; exact Option.some_ne_none o))
    exact k p vs es f1 G2 H2 (g1.trans g2.pure) (b1.pur g2) h0 gp hv r2 q2⟩
theorem xe_un {op : UnaryOp} {r : V → Hp → VK → Prop} {rd : PyData → (PyData → Prop) → Prop} (ho : UnR X (unaryOp op) r)
    (h : ∀ (H : Hp) (G : Hp) (x : V) (d : PyData) (P : PyData → Prop), Rp X.K G x d → rd d P → ∀ Q : VK, (∀ v z, (∀ G, Rp X.K G v z) → P z → Q v H) → r x H Q) (ha : XE X mb js pn a ta da) : XE X mb js pn (.UnaryOp op a pos) (tUn r ta) (dUn rd da) :=
  ⟨pe_un ho ha.pe, fun G H f σ ρ P S q Q k => ha.sm G H f σ ρ _ S q _ fun v d f1 G1 H1 g1 b1 r1 q1 => h H1 G1 v d _ r1 q1 Q fun w z rz pz => k w z f1 G1 H1 g1 b1 (rz G1) pz⟩
end
end TC
end Dt
namespace Dt
open PySem PySem.Spec PyProof.Rows L2
variable [TabG]
section TC
variable [TabC]

def rI2 (C : Int → Int → Prop) (g : Int → Int → PyData) : R2D := fun x y P => match x, y with
  | .int i, .int j => C i j ∧ P (g i j)
  | _, _ => False
def rN2 (g : Int → Int → PyData) : R2D := fun x y P => match x, y with
  | .int i, .int j => P (g i j)
  | _, _ => False
def rEqS : R2D := fun x y P => match x, y with
  | .int i, .int j => P (.bool (decide (i = j)))
  | .str i, .str j => P (.bool (decide (i = j)))
  | .bool i, .bool j => P (.bool (decide (i = j)))
  | _, _ => False
def rNeS : R2D := fun x y P => match x, y with
  | .int i, .int j => P (.bool (!decide (i = j)))
  | .str i, .str j => P (.bool (!decide (i = j)))
  | .bool i, .bool j => P (.bool (!decide (i = j)))
  | _, _ => False
def rEqDd : R2D := fun x y P => SeqAt.shaped x = true ∧ SeqAt.shaped y = true ∧ P (.bool (PyData.eqv x y))
def rNeDd : R2D := fun x y P => SeqAt.shaped x = true ∧ SeqAt.shaped y = true ∧ P (.bool (!PyData.eqv x y))
def rIsNd : R2D := fun x y P => match y with
  | .none => P (.bool (match x with
    | .none => true
    | _ => false))
  | _ => False
def rNotNd : R2D := fun x y P => match y with
  | .none => P (.bool (match x with
    | .none => false
    | _ => true))
  | _ => False
def rCatL : R2D := fun x y P => match x, y with
  | .list xs, .list ys => xs.length + ys.length ≤ 16777216 ∧ P (.list (xs ++ ys))
  | _, _ => False
def rCatTd : R2D := fun x y P => match x, y with
  | .tuple xs, .tuple ys => xs.length + ys.length ≤ 16777216 ∧ P (.tuple (xs ++ ys))
  | _, _ => False
/-- the i-th item -/
def atD (ds : List PyData) (i : Int) : Option PyData := if 0 ≤ i then ds[i.toNat]? else if 0 ≤ (ds.length : Int) + i then ds[((ds.length : Int) + i).toNat]? else none
def rIxD : R2D := fun x y P => match x, y with
  | .list ds, .int i => (match atD ds i with
    | some d => P d
    | none => False)
  | .tuple ds, .int i => (match atD ds i with
    | some d => P d
    | none => False)
  | _, _ => False
/-- x in a list, a tuple: of ints; of texts -/
def intsOf : List PyData → Option (List Int)
  | [] => some []
  | .int i :: r => (intsOf r).map (i :: ·)
  | _ => none
def strsOf : List PyData → Option (List Str)
  | [] => some []
  | .str i :: r => (strsOf r).map (i :: ·)
  | _ => none
def itemsOf : PyData → Option (List PyData)
  | .list ds => some ds
  | .tuple ds => some ds
  | _ => none
def rInI : R2D := fun x y P => match x, itemsOf y with
  | .int i, some ds => ∃ ns : List Int, ds = ns.map PyData.int ∧ P (.bool (decide (i ∈ ns)))
  | _, _ => False
def rNiI : R2D := fun x y P => match x, itemsOf y with
  | .int i, some ds => ∃ ns : List Int, ds = ns.map PyData.int ∧ P (.bool (!decide (i ∈ ns)))
  | _, _ => False
def rInS : R2D := fun x y P => match x, itemsOf y with
  | .str i, some ds => ∃ ns : List Str, ds = ns.map PyData.str ∧ P (.bool (decide (i ∈ ns)))
  | _, _ => False

section
variable {K : PySem.W.Frag}
theorem sim_I2 {C : Int → Int → Prop} {g : Int → Int → V} {g' : Int → Int → PyData} (h : ∀ G i j, Rp K G (g i j) (g' i j)) : Sim2 K (rI C g) (rI2 C g') := fun G H x y d e P gh rx ry q Q k => by
  cases rx <;> first
    | exact q.elim
    | (cases ry <;> first
        | exact q.elim
        | exact ⟨_, _, rfl, rfl, q.1, k _ _ G H (Go.refl gh) (h _ _ _) q.2⟩)
theorem sim_N2 {g : Int → Int → V} {g' : Int → Int → PyData} (h : ∀ G i j, Rp K G (g i j) (g' i j)) : Sim2 K (rI0 g) (rN2 g') := fun G H x y d e P gh rx ry q Q k => by
  cases rx <;> first
    | exact q.elim
    | (cases ry <;> first
        | exact q.elim
        | exact ⟨_, _, rfl, rfl, k _ _ G H (Go.refl gh) (h _ _ _) q⟩)
theorem sim_add : Sim2 K (rI0 fun i j => .int (i + j)) (rN2 fun i j => .int (i + j)) := sim_N2 fun _ _ _ => .int _
theorem sim_sub : Sim2 K (rI0 fun i j => .int (i - j)) (rN2 fun i j => .int (i - j)) := sim_N2 fun _ _ _ => .int _
theorem sim_lt : Sim2 K (rI0 fun i j => .bl (decide (i < j))) (rN2 fun i j => .bool (decide (i < j))) := sim_N2 fun _ _ _ => .bl _
theorem sim_le : Sim2 K (rI0 fun i j => .bl (decide (i ≤ j))) (rN2 fun i j => .bool (decide (i ≤ j))) := sim_N2 fun _ _ _ => .bl _
theorem sim_gt : Sim2 K (rI0 fun i j => .bl (decide (j < i))) (rN2 fun i j => .bool (decide (j < i))) := sim_N2 fun _ _ _ => .bl _
theorem sim_ge : Sim2 K (rI0 fun i j => .bl (decide (j ≤ i))) (rN2 fun i j => .bool (decide (j ≤ i))) := sim_N2 fun _ _ _ => .bl _
theorem sim_mul : Sim2 K (rI CMul fun i j => .int (i * j)) (rI2 CMul fun i j => .int (i * j)) := sim_I2 fun _ _ _ => .int _
theorem sim_div : Sim2 K (rI CDiv fun i j => .int (i / j)) (rI2 CDiv fun i j => .int (i / j)) := sim_I2 fun _ _ _ => .int _
theorem sim_mod : Sim2 K (rI (fun _ j => 0 < j) fun i j => .int (i % j)) (rI2 (fun _ j => 0 < j) fun i j => .int (i % j)) := sim_I2 fun _ _ _ => .int _
theorem sim_pow : Sim2 K (rI CPow fun i j => .int (i ^ j.toNat)) (rI2 CPow fun i j => .int (i ^ j.toNat)) := sim_I2 fun _ _ _ => .int _
theorem sim_eqS : Sim2 K rEq rEqS := fun G H x y d e P gh rx ry q Q k => by
  cases rx <;> first
    | exact q.elim
    | (cases ry <;> first
        | exact q.elim
        | exact ⟨rfl, k _ _ G H (Go.refl gh) (.bl _) (by simpa [rEqS] using q)⟩)
theorem sim_neS : Sim2 K rNe rNeS := fun G H x y d e P gh rx ry q Q k => by
  cases rx <;> first
    | exact q.elim
    | (cases ry <;> first
        | exact q.elim
        | exact ⟨rfl, k _ _ G H (Go.refl gh) (.bl _) (by simpa [rNeS] using q)⟩)
theorem sim_eqD : Sim2 K (rEqD K) rEqDd := fun G H x y d e P gh rx ry q Q k => ⟨d, e, (rx.mono gh).dp, (ry.mono gh).dp, q.1, q.2.1, k _ _ G H (Go.refl gh) (.bl _) q.2.2⟩
theorem sim_neD : Sim2 K (rNeD K) rNeDd := fun G H x y d e P gh rx ry q Q k => ⟨d, e, (rx.mono gh).dp, (ry.mono gh).dp, q.1, q.2.1, k _ _ G H (Go.refl gh) (.bl _) q.2.2⟩
theorem sim_isN : Sim2 K (fun x y H Q => y = .non ∧ Q (.bl (decide (x = .non))) H) rIsNd := fun G H x y d e P gh rx ry q Q k => by
  cases ry <;> first
    | exact q.elim
    | exact ⟨rfl, k _ _ G H (Go.refl gh) (.bl _) (by cases rx <;> simpa [rIsNd] using q)⟩
theorem sim_notN : Sim2 K (fun x y H Q => y = .non ∧ Q (.bl (!decide (x = .non))) H) rNotNd := fun G H x y d e P gh rx ry q Q k => by
  cases ry <;> first
    | exact q.elim
    | exact ⟨rfl, k _ _ G H (Go.refl gh) (.bl _) (by cases rx <;> simpa [rNotNd] using q)⟩
/-- a new list, a new tuple that only grows the heap -/
theorem go_new {G H : Hp} (gh : Same G H) {p : Addr} {o : HO} (hp : H p = none) : Go none G H (upd G p o) (upd H p o) :=
  (Go.grow gh (same_new hp)).add hp (same_none gh hp) upd_same
theorem sim_catL : Sim2 K rCat rCatL := fun G H x y d e P gh rx ry q Q k => by
  cases rx <;> first
    | exact q.elim
    | (rename_i a xs ds ha ra
       cases ry <;> first
        | exact q.elim
        | (rename_i b ys es hb rb
           refine ⟨a, b, xs, ys, rfl, rfl, gh _ _ ha, gh _ _ hb, ?_, fun p hp => k _ _ _ _ (go_new gh hp) (.lst upd_same ((ra.app rb).mono (same_new (same_none gh hp)))) q.2⟩
           rw [ra.len, rb.len, sizeLine_eq]
           exact q.1))
theorem sim_catN : ∀ {x y : V} {d e : PyData} {G H : Hp} {P : List PyData → Prop}, Same G H → Rp K G x d → Rp K G y e → rCatL d e (fun z => match z with
  | .list ds => P ds
  | _ => False) → ∀ Q : VK, (∀ p vs ds H', H p = none → H' = upd H p (.lst vs) → RpA K G vs ds → P ds → Q (.ref p) H') → rCat x y H Q := fun {x y d e G H P} gh rx ry q Q k => by
  cases rx <;> first
    | exact q.elim
    | (rename_i a xs ds ha ra
       cases ry <;> first
        | exact q.elim
        | (rename_i b ys es hb rb
           refine ⟨a, b, xs, ys, rfl, rfl, gh _ _ ha, gh _ _ hb, ?_, fun p hp => k p _ _ _ hp rfl (ra.app rb) q.2⟩
           rw [ra.len, rb.len, sizeLine_eq]
           exact q.1))
theorem sim_catT : Sim2 K (rCatA K) rCatTd := fun G H x y d e P gh rx ry q Q k => by
  cases rx <;> first
    | exact q.elim
    | (rename_i a xs ds ha ra
       cases ry <;> first
        | exact q.elim
        | (rename_i b ys es hb rb
           refine ⟨a, b, xs, ys, rfl, rfl, sqT_mono gh ha, sqT_mono gh hb, ?_, fun z => ?_, fun _ z => ?_, fun _ _ p hp => k _ _ _ _ (go_new gh hp) (.tup (.inl (.inl upd_same)) ((ra.app rb).mono (same_new (same_none gh hp)))) q.2⟩
           · rw [ra.len, rb.len, sizeLine_eq]
             exact q.1
           · subst z
             cases ra
             exact k _ _ G H (Go.refl gh) (.tup hb rb) q.2
           · subst z
             cases rb
             have q2 := q.2
             rw [List.append_nil] at q2
             exact k _ _ G H (Go.refl gh) (.tup ha ra) q2))
theorem atD_at {G : Hp} {xs : List V} {ds : List PyData} {i : Int} {d : PyData} (r : RpA K G xs ds) (h : atD ds i = some d) : ∃ v, atI xs i = some v ∧ Rp K G v d := by
  unfold atD at h
  split at h
  · rename_i hi
    obtain ⟨v, h1, h2⟩ := r.get h
    refine ⟨v, ?_, h2⟩
    have e : i = ((i.toNat : Nat) : Int) := by omega
    rw [e]
    exact atI_nat h1
  · rename_i hi
    split at h
    · rename_i hj
      obtain ⟨v, h1, h2⟩ := r.get h
      refine ⟨v, ?_, h2⟩
      have hl := r.len
      have hb : ((ds.length : Int) + i).toNat < xs.length := (List.getElem?_eq_some_iff.mp h1).1
      have e1 : ixN xs.length i = some ((ds.length : Int) + i).toNat := by
        unfold ixN
        rw [if_neg hi, if_pos (by omega), hl, Int.add_comm]
      unfold atI
      rw [e1]
      exact h1
    · cases h
theorem sim_ix : Sim2 K (rIx K) rIxD := fun G H x y d e P gh rx ry q Q k => by
  cases rx <;> first
    | exact q.elim
    | (rename_i a xs ds ha ra
       cases ry <;> first
        | exact q.elim
        | (rename_i i
           unfold rIxD at q
           simp only [] at q
           split at q
           · rename_i d hd
             obtain ⟨v, h1, h2⟩ := atD_at ra hd
             first
               | exact .inl ⟨a, xs, i, v, rfl, rfl, SqL.of (gh _ _ ha), h1, k v d G H (Go.refl gh) h2 q⟩
               | exact .inr (.inl ⟨a, xs, i, v, rfl, rfl, sqT_mono gh ha, h1, k v d G H (Go.refl gh) h2 q⟩)
           · exact q.elim))
theorem flat_ints : ∀ ns : List Int, (ns.map V.int).all flatV = true
  | [] => rfl
  | n :: ns => by
    rw [List.map_cons, List.all_cons, flat_ints ns]
    rfl
theorem inV_ints (i : Int) : ∀ ns : List Int, inV (.int i) (ns.map V.int) = decide (i ∈ ns)
  | [] => by simp [inV]
  | n :: ns => by
    have ih := inV_ints i ns
    unfold inV at ih ⊢
    rw [List.map_cons, List.any_cons, ih]
    simp only [eqV, List.mem_cons]
    by_cases h : n = i
    · subst h
      simp
    · have h2 : ¬ i = n := fun e => h e.symm
      simp [h, h2]
theorem flat_strs : ∀ ns : List Str, (ns.map V.str).all flatV = true
  | [] => rfl
  | n :: ns => by
    rw [List.map_cons, List.all_cons, flat_strs ns]
    rfl
theorem inV_strs (i : Str) : ∀ ns : List Str, inV (.str i) (ns.map V.str) = decide (i ∈ ns)
  | [] => by simp [inV]
  | n :: ns => by
    have ih := inV_strs i ns
    unfold inV at ih ⊢
    rw [List.map_cons, List.any_cons, ih]
    simp only [eqV, List.mem_cons]
    by_cases h : n = i
    · subst h
      simp
    · have h2 : ¬ i = n := fun e => h e.symm
      simp [h, h2]
theorem RpA.strs {G : Hp} : ∀ {vs : List V} {ns : List Str}, RpA K G vs (ns.map PyData.str) → vs = ns.map V.str
  | _, [], .nil => rfl
  | _, n :: ns, .cons h r => by
    cases h
    rw [RpA.strs (ns := ns) r]
    rfl
theorem rp_items {G H : Hp} {y : V} {e : PyData} {ds : List PyData} (gh : Same G H) (r : Rp K G y e) (h : itemsOf e = some ds) : ∃ p xs, y = .ref p ∧ (SqL K H p xs ∨ SqT K H p xs) ∧ RpA K G xs ds := by
  cases r <;> first
    | (cases h; done)
    | (rename_i a xs es ha ra
       cases h
       first
         | exact ⟨a, xs, rfl, .inl (SqL.of (gh _ _ ha)), ra⟩
         | exact ⟨a, xs, rfl, .inr (sqT_mono gh ha), ra⟩)
theorem sim_inI : Sim2 K (rIn K false) rInI := fun G H x y d e P gh rx ry q Q k => by
  cases rx <;> first
    | exact q.elim
    | (unfold rInI at q
       split at q
       · rename_i i ds e1 h2
         cases e1
         obtain ⟨ns, rfl, q⟩ := q
         obtain ⟨p, xs, rfl, h3, h4⟩ := rp_items gh ry h2
         have e2 := h4.ints
         subst e2
         refine ⟨p, _, rfl, h3, rfl, flat_ints ns, k _ _ G H (Go.refl gh) ?_ q⟩
         rw [inV_ints]
         exact .bl _
       · exact q.elim)
theorem sim_niI : Sim2 K (rIn K true) rNiI := fun G H x y d e P gh rx ry q Q k => by
  cases rx <;> first
    | exact q.elim
    | (unfold rNiI at q
       split at q
       · rename_i i ds e1 h2
         cases e1
         obtain ⟨ns, rfl, q⟩ := q
         obtain ⟨p, xs, rfl, h3, h4⟩ := rp_items gh ry h2
         have e2 := h4.ints
         subst e2
         refine ⟨p, _, rfl, h3, rfl, flat_ints ns, k _ _ G H (Go.refl gh) ?_ q⟩
         rw [inV_ints]
         exact .bl _
       · exact q.elim)
theorem sim_inS : Sim2 K (rIn K false) rInS := fun G H x y d e P gh rx ry q Q k => by
  cases rx <;> first
    | exact q.elim
    | (unfold rInS at q
       split at q
       · rename_i i ds e1 h2
         cases e1
         obtain ⟨ns, rfl, q⟩ := q
         obtain ⟨p, xs, rfl, h3, h4⟩ := rp_items gh ry h2
         have e2 := h4.strs
         subst e2
         refine ⟨p, _, rfl, h3, rfl, flat_strs ns, k _ _ G H (Go.refl gh) ?_ q⟩
         rw [inV_strs]
         exact .bl _
       · exact q.elim)
end
end TC
end Dt
namespace Dt
open PySem PySem.Spec PyProof.Rows L2
variable [TabG]
section TC
variable [TabC]

abbrev DO := Rho → Nat → (Option Int → Nat → Prop) → Prop
def SimO (K : PySem.W.Frag) (mb : Option Addr) (js : Nat) (pn : Option V) (to : TO) (d : DO) : Prop := ∀ (G H : Hp) (f : Nat) (σ : L2.St) (ρ : Rho) (P : Option Int → Nat → Prop), Stt K mb js pn G H f σ ρ → d ρ f P →
  ∀ Q : Option Int → Hp → Prop, (∀ o f' G' H', Go mb G H G' H' → Bag mb f' H' → P o f' → Q o H') → to σ H Q
structure XO (X : Cx) (mb : Option Addr) (js : Nat) (pn : Option V) (e : Option Expr) (to : TO) (d : DO) : Prop where
  pe : PO X e to
  sm : SimO X.K mb js pn to d
def dNoP : DO := fun _ f P => P none f
def dPart (de : DE) : DO := fun ρ f P => de ρ f fun x f1 => match x with
  | .int i => P (some i) f1
  | _ => False
def cutD (ds : List PyData) (lo hi : Option Int) : List PyData := (ds.drop (HT.sIx ds.length 0 lo)).take (HT.sIx ds.length ds.length hi - HT.sIx ds.length 0 lo)
def dSlL (a : DE) (lo hi : DO) : DA := fun ρ f P => a ρ f fun x f1 => lo ρ f1 fun l f2 => hi ρ f2 fun h f3 => match x with
  | .list ds => P (cutD ds l h) f3
  | _ => False
def dSlT (a : DE) (lo hi : DO) : DE := fun ρ f P => a ρ f fun x f1 => lo ρ f1 fun l f2 => hi ρ f2 fun h f3 => match x with
  | .tuple ds => P (.tuple (cutD ds l h)) f3
  | _ => False
theorem none_back {mb : Option Addr} {G H G1 H1 : Hp} (g : Go mb G H G1 H1) {p : Addr} (hp : H1 p = none) : H p = none := by
  cases e : H p with
  | none => rfl
  | some o => exact absurd hp (g.hd p (by rw [e]; exact Option.some_ne_none o))
section
variable {X : Cx} {mb : Option Addr} {js : Nat} {pn : Option V} {e : Expr} {te : TE} {de : DE} {lo hi : Option Expr} {tl th : TO} {dl dh : DO} {pos p2 : Pos}
theorem xo_no : XO X mb js pn none tNoPart dNoP := ⟨po_none, fun G H f σ ρ P S q Q k => k none f G H (Go.refl S.gh) S.bi q⟩
theorem xo_some (h : XE X mb js pn e te de) : XO X mb js pn (some e) (tPart te) (dPart de) := ⟨po_some h.pe, fun G H f σ ρ P S q Q k => h.sm G H f σ ρ _ S q _ fun v d f1 G1 H1 g1 b1 r1 q1 => by
  cases r1 <;> first
    | exact q1.elim
    | exact ⟨_, rfl, k _ f1 G1 H1 g1 b1 q1⟩⟩
theorem RpA.cut {K : PySem.W.Frag} {G : Hp} {xs : List V} {ds : List PyData} (r : RpA K G xs ds) (l h : Option Int) : RpA K G (cutV xs l h) (cutD ds l h) := by
  unfold cutV cutD
  rw [r.len]
  exact (r.dr _).tk _
theorem xn_sl (he : XE X mb js pn e te de) (hl : XO X mb js pn lo tl dl) (hu : XO X mb js pn hi th dh) : XN X mb js pn (.Subscript e (.Slice lo hi none p2) pos) (tSl (rSlL X.K) te tl th) (dSlL de dl dh) :=
  ⟨pe_slice sl_list he.pe hl.pe hu.pe, fun G H f σ ρ P S q Q k => he.sm G H f σ ρ _ S q _ fun v d f1 G1 H1 g1 b1 r1 q1 => hl.sm G1 H1 f1 σ ρ _ (S.go g1 b1) q1 _ fun l f2 G2 H2 g2 b2 q2 => hu.sm G2 H2 f2 σ ρ _ ((S.go g1 b1).go g2 b2) q2 _ fun h f3 G3 H3 g3 b3 q3 => by
    have g := (g1.trans g2).trans g3
    have r := r1.mono (g2.gg.trans g3.gg)
    cases r <;> first
      | exact q3.elim
      | (rename_i a xs ds ha ra
         exact ⟨a, xs, rfl, SqL.of (g.gh _ _ ha), fun p hp => k p _ _ f3 G3 _ (g.trans (Go.grow g.gh (same_new hp))) (b3.same (same_new hp)) (none_back g hp) (same_none g.gh hp) upd_same (ra.cut l h) q3⟩)⟩
theorem cut_whole {ds : List PyData} {l h : Option Int} {n : Nat} (hn : ds.length = n) (w : HT.sIx n 0 l = 0 ∧ HT.sIx n n h = n) : cutD ds l h = ds := by
  unfold cutD
  rw [hn, w.1, w.2, List.drop_zero, Nat.sub_zero, ← hn, List.take_length]
theorem xe_sl (he : XE X mb js pn e te de) (hl : XO X mb js pn lo tl dl) (hu : XO X mb js pn hi th dh) : XE X mb js pn (.Subscript e (.Slice lo hi none p2) pos) (tSl (rSlA X.K) te tl th) (dSlT de dl dh) :=
  ⟨pe_slice sl_tupA he.pe hl.pe hu.pe, fun G H f σ ρ P S q Q k => he.sm G H f σ ρ _ S q _ fun v d f1 G1 H1 g1 b1 r1 q1 => hl.sm G1 H1 f1 σ ρ _ (S.go g1 b1) q1 _ fun l f2 G2 H2 g2 b2 q2 => hu.sm G2 H2 f2 σ ρ _ ((S.go g1 b1).go g2 b2) q2 _ fun h f3 G3 H3 g3 b3 q3 => by
    have g := (g1.trans g2).trans g3
    have r := r1.mono (g2.gg.trans g3.gg)
    cases r <;> first
      | exact q3.elim
      | (rename_i a xs ds ha ra
         refine ⟨a, xs, rfl, sqT_mono g.gh ha, fun w => ?_, fun _ p hp => k (.ref p) _ f3 _ _ ((g.trans (Go.grow g.gh (same_new hp))).add (o := .tup (cutV xs l h)) (none_back g hp) (same_none g.gh hp) upd_same) (b3.same (same_new hp)) (.tup (.inl (.inl upd_same)) ((ra.cut l h).mono (same_new (same_none g.gh hp)))) q3⟩
         have q4 : P (.tuple (cutD ds l h)) f3 := q3
         rw [cut_whole ra.len.symm w] at q4
         exact k (.ref a) _ f3 G3 H3 g b3 (.tup ha ra) q4)⟩
end

def rLenDd : RCD := fun ds P => match ds with
  | [x] => (match itemsOf x with
    | some es => P (.int es.length)
    | none => False)
  | _ => False
def rMax2d : RCD := fun ds P => match ds with
  | [.int i, .int j] => P (.int (max i j))
  | _ => False
def rMin2d : RCD := fun ds P => match ds with
  | [.int i, .int j] => P (.int (min i j))
  | _ => False
def rSumD : RCD := fun ds P => match ds with
  | [.list es] => ∃ ns : List Int, es = ns.map PyData.int ∧ P (.int ns.sum)
  | _ => False
def rMaxD : RCD := fun ds P => match ds with
  | [.list es] => ∃ ns : List Int, es = ns.map PyData.int ∧ 0 < ns.length ∧ ∀ m, m ∈ ns → (∀ y, y ∈ ns → y ≤ m) → P (.int m)
  | _ => False
def rAllD : RCD := fun ds P => match ds with
  | [.list es] => ∃ bs : List Bool, es = bs.map PyData.bool ∧ P (.bool (bs.all id))
  | _ => False
def rTupleD : RCD := fun ds P => match ds with
  | [x] => (match itemsOf x with
    | some es => P (.tuple es)
    | none => False)
  | _ => False
def rListD : List PyData → (List PyData → Prop) → Prop := fun ds P => match ds with
  | [x] => (match itemsOf x with
    | some es => P es
    | none => False)
  | _ => False
section
variable {K : PySem.W.Frag}
theorem sim_len : SimC K (fun xs H Q => ∃ p ys, xs = [.ref p] ∧ (SqL K H p ys ∨ SqT K H p ys) ∧ Q (.int ys.length) H) rLenDd := fun G H xs ds P gh r q Q k => by
  unfold rLenDd at q
  split at q
  · split at q
    · rename_i x es hx
      cases r with
      | cons r1 r2 =>
        cases r2
        obtain ⟨p, ys, rfl, h3, h4⟩ := rp_items gh r1 hx
        refine ⟨p, ys, rfl, h3, k _ _ G H (Go.refl gh) (.int _) ?_⟩
        rw [h4.len]
        exact q
    · exact q.elim
  · exact q.elim
theorem sim_max2 : SimC K (fun xs H Q => ∃ i j, xs = [.int i, .int j] ∧ Q (.int (if j > i then j else i)) H) rMax2d := fun G H xs ds P gh r q Q k => by
  unfold rMax2d at q
  split at q
  · rename_i i j
    cases r with
    | cons r1 r2 => cases r2 with
      | cons r2 r3 =>
        cases r3
        cases r1
        cases r2
        refine ⟨i, j, rfl, k _ _ G H (Go.refl gh) (.int _) ?_⟩
        have e : (if j > i then j else i) = max i j := by
          split <;> omega
        rw [e]
        exact q
  · exact q.elim
theorem sim_min2 : SimC K (fun xs H Q => ∃ i j, xs = [.int i, .int j] ∧ Q (.int (if j < i then j else i)) H) rMin2d := fun G H xs ds P gh r q Q k => by
  unfold rMin2d at q
  split at q
  · rename_i i j
    cases r with
    | cons r1 r2 => cases r2 with
      | cons r2 r3 =>
        cases r3
        cases r1
        cases r2
        refine ⟨i, j, rfl, k _ _ G H (Go.refl gh) (.int _) ?_⟩
        have e : (if j < i then j else i) = min i j := by
          split <;> omega
        rw [e]
        exact q
  · exact q.elim
theorem one_list {G H : Hp} {xs : List V} {es : List PyData} (gh : Same G H) (r : RpA K G xs [.list es]) : ∃ a ys, xs = [.ref a] ∧ H a = some (.lst ys) ∧ RpA K G ys es := by
  cases r with
  | cons r1 r2 =>
    cases r2
    cases r1 with
    | lst h1 h2 => exact ⟨_, _, rfl, gh _ _ h1, h2⟩
theorem sim_sum : SimC K (rSum K) rSumD := fun G H xs ds P gh r q Q k => by
  unfold rSumD at q
  split at q
  · obtain ⟨ns, rfl, q⟩ := q
    obtain ⟨a, ys, rfl, h1, h2⟩ := one_list gh r
    have e := h2.ints
    subst e
    exact ⟨a, ns, rfl, SqL.of h1, k _ _ G H (Go.refl gh) (.int _) q⟩
  · exact q.elim
theorem sim_max : SimC K (rMax K) rMaxD := fun G H xs ds P gh r q Q k => by
  unfold rMaxD at q
  split at q
  · obtain ⟨ns, rfl, hn, q⟩ := q
    obtain ⟨a, ys, rfl, h1, h2⟩ := one_list gh r
    have e := h2.ints
    subst e
    exact ⟨a, ns, rfl, SqL.of h1, hn, fun m hm hle => k _ _ G H (Go.refl gh) (.int _) (q m hm hle)⟩
  · exact q.elim
theorem sim_all : SimC K (rAll K) rAllD := fun G H xs ds P gh r q Q k => by
  unfold rAllD at q
  split at q
  · obtain ⟨ns, rfl, q⟩ := q
    obtain ⟨a, ys, rfl, h1, h2⟩ := one_list gh r
    have e := h2.bls
    subst e
    exact ⟨a, ns, rfl, SqL.of h1, k _ _ G H (Go.refl gh) (.bl _) q⟩
  · exact q.elim
theorem sim_list : SimCN K (fun xs H Q => ∃ p ys, xs = [.ref p] ∧ (SqL K H p ys ∨ SqT K H p ys) ∧ ∀ l, H l = none → Q (.ref l) (upd H l (.lst ys))) rListD := fun G H xs ds P gh r q Q k => by
  unfold rListD at q
  split at q
  · split at q
    · rename_i x es hx
      cases r with
      | cons r1 r2 =>
        cases r2
        obtain ⟨p, ys, rfl, h3, h4⟩ := rp_items gh r1 hx
        exact ⟨p, ys, rfl, h3, fun l hl => k l ys es G _ (Go.grow gh (same_new hl)) hl (same_none gh hl) upd_same h4 q⟩
    · exact q.elim
  · exact q.elim
theorem sim_tuple : SimC K (fun xs H Q => ∃ p ys, xs = [.ref p] ∧ ((SqL K H p ys ∧ ∀ l, H l = none → Q (.ref l) (upd H l (.tup ys))) ∨ (SqT K H p ys ∧ Q (.ref p) H))) rTupleD := fun G H xs ds P gh r q Q k => by
  unfold rTupleD at q
  split at q
  · split at q
    · rename_i x es hx
      cases r with
      | cons r1 r2 =>
        cases r2
        cases r1 <;> first
          | (cases hx; done)
          | (rename_i a ys es' ha ra
             cases hx
             first
               | exact ⟨a, ys, rfl, .inl ⟨SqL.of (gh _ _ ha), fun l hl => k _ _ _ _ (go_new gh hl) (.tup (.inl (.inl upd_same)) (ra.mono (same_new (same_none gh hl)))) q⟩⟩
               | exact ⟨a, ys, rfl, .inr ⟨sqT_mono gh ha, k _ _ G H (Go.refl gh) (.tup ha ra) q⟩⟩)
    · exact q.elim
  · exact q.elim
end

inductive Tg where
  | n (i : Nat)
  | t (is : List Nat)
  | l (is : List Nat)
def gNs : List Nat → TGs
  | [] => gNil
  | i :: is => gCons (gName i) (gNs is)
def tgG (K : PySem.W.Frag) : Tg → TG
  | .n i => gName i
  | .t is => gTup K is.length (gNs is)
  | .l is => gUnl K is.length (gNs is)
def Tg.sl : Tg → List Nat
  | .n i => [i]
  | .t is => is
  | .l is => is
def setL : List Nat → List PyData → Rho → Option Rho
  | [], [], ρ => some ρ
  | i :: is, d :: ds, ρ => setL is ds (ρ.set i (.d d))
  | _, _, _ => none
def setT : Tg → PyData → Rho → Option Rho
  | .n i, d, ρ => some (ρ.set i (.d d))
  | .t is, .tuple ds, ρ => setL is ds ρ
  | .l is, .list ds, ρ => setL is ds ρ
  | _, _, _ => none
section
variable {X : Cx} {pos : Pos}
theorem xg_name (i : Nat) {x : Str} (hN : X.N.Nodup) (hi : X.N[i]? = some x := by rfl) (hx : Loc X.env.scope x := by first | exact Or.inl rfl | exact Or.inr rfl) (hf : X.fn x = true ∨ X.env.scope.names.lookup x = some .local := by first | exact .inl rfl | exact .inr rfl | assumption) :
    PG X (.Name x pos) (tgG X.K (.n i)) := pg_name hN hi hx hf
theorem xgs_nil : PGs X [] (gNs []) := pgs_nil
theorem xgs_cons {e : Expr} {es : List Expr} {i : Nat} {is : List Nat} (h1 : PG X e (tgG X.K (.n i))) (h2 : PGs X es (gNs is)) (hs : (assignEach (e :: es) X.env).map (·.2) = assign e X.env :: (assignEach es X.env).map (·.2) := by rfl) : PGs X (e :: es) (gNs (i :: is)) := pgs_cons h1 h2 hs
theorem xg_unl {es : List Expr} {is : List Nat} {k : Nat} (h : PGs X es (gNs is)) (hc : X.calm = true := by rfl) (hn : (assignEach es X.env).length = is.length := by rfl) (hst : (assignEach es X.env).findIdx? (·.1) = none := by rfl) : PG X (.Tuple es k pos) (tgG X.K (.l is)) := pg_unl hc h hn hst
theorem xg_tup {es : List Expr} {is : List Nat} {k : Nat} (h : PGs X es (gNs is)) (hc : X.calm = true := by rfl) (hn : (assignEach es X.env).length = is.length := by rfl) (hst : (assignEach es X.env).findIdx? (·.1) = none := by rfl) : PG X (.Tuple es k pos) (tgG X.K (.t is)) := pg_tup hc h hn hst
end
section
variable {K : PySem.W.Frag} {mb : Option Addr} {js : Nat} {pn : Option V} {G H : Hp} {f : Nat} {σ : L2.St} {ρ ρ' : Rho}
/-- the lists of one's own are those of before -/
def Own (σ : L2.St) (ρ : Rho) (σ' : L2.St) (ρ' : Rho) : Prop := ∀ (i : Nat) (ds : List PyData) (p : Addr), ρ'[i]? = some (SV.l ds) → σ'[i]? = some (some (V.ref p)) → ρ[i]? = some (SV.l ds) ∧ σ[i]? = some (some (V.ref p))
theorem Stt.set1 (S : Stt K mb js pn G H f σ ρ) {i : Nat} {v : V} {d : PyData} (hj : i ≠ js) (r : Rp K G v d) : Stt K mb js pn G H f (σ.set i (some v)) (ρ.set i (.d d)) ∧ Own σ ρ (σ.set i (some v)) (ρ.set i (.d d)) := by
  have other : ∀ (k : Nat) (ds : List PyData), (ρ.set i (.d d))[k]? = some (SV.l ds) → ρ[k]? = some (SV.l ds) ∧ i ≠ k := fun k ds e => by
    rw [List.getElem?_set] at e
    split at e
    · split at e
      · cases e
      · cases e
    · exact ⟨e, ‹_›⟩
  have same : ∀ (k : Nat), i ≠ k → (σ.set i (some v))[k]? = σ[k]? := fun k h => List.getElem?_set_ne h
  refine ⟨{ tk := S.tk, gh := S.gh, gb := S.gb, bi := S.bi, bj := fun b e => by rw [same js hj]; exact S.bj b e, pj := fun v e => by rw [same js hj]; exact S.pj v e, ln := by rw [List.length_set, List.length_set]; exact S.ln, ft := ?_, ow := ?_, sp := ?_, gf := fun k P e => (by
    rw [List.getElem?_set] at e
    split at e
    · split at e
      · cases e
      · cases e
    · rename_i h
      rw [same k h]
      exact S.gf k P e) }, ?_⟩
  · intro k x e
    rw [List.getElem?_set] at e
    split at e
    · split at e
      · rename_i h1 h2
        cases e
        subst h1
        exact ⟨v, by rw [List.getElem?_set_self (by rw [S.ln]; exact h2)], r⟩
      · cases e
    · rename_i h1
      rw [same k h1]
      exact S.ft k x e
  · intro k ds e
    obtain ⟨e1, h1⟩ := other k ds e
    rw [same k h1]
    exact S.ow k ds e1
  · intro a b ds es p e1 e2
    obtain ⟨f1, n1⟩ := other a ds e1
    obtain ⟨f2, n2⟩ := other b es e2
    rw [same a n1, same b n2]
    exact S.sp a b ds es p f1 f2
  · intro k ds p e1 e2
    obtain ⟨f1, n1⟩ := other k ds e1
    rw [same k n1] at e2
    exact ⟨f1, e2⟩
theorem wipe_at {σ : L2.St} {k : Nat} : ∀ {vs : List Nat}, (wipe σ vs)[k]? = if k ∈ vs then (if k < σ.length then some none else none) else σ[k]?
  | [] => by simp [wipe]
  | v :: vs => by
    unfold wipe
    rw [List.getElem?_set, wipe_at (vs := vs), wipe_length]
    by_cases h : v = k
    · subst h
      simp
    · have h2 : ¬ k = v := fun e => h e.symm
      simp [h, h2]
theorem wipe_set {σ : L2.St} {i : Nat} {x : Option V} {vs : List Nat} (h : i ∈ vs) : wipe (σ.set i x) vs = wipe σ vs := by
  apply List.ext_getElem?
  intro k
  rw [wipe_at, wipe_at, List.length_set]
  by_cases hk : k ∈ vs
  · rw [if_pos hk, if_pos hk]
  · rw [if_neg hk, if_neg hk]
    rw [List.getElem?_set_ne (fun e => hk (by rw [← e]; exact h))]
theorem wipe_wipe {σ : L2.St} {vs : List Nat} : wipe (wipe σ vs) vs = wipe σ vs := by
  apply List.ext_getElem?
  intro k
  rw [wipe_at, wipe_at, wipe_length]
  by_cases hk : k ∈ vs
  · rw [if_pos hk, if_pos hk]
  · rw [if_neg hk, if_neg hk]
theorem Own.refl (σ : L2.St) (ρ : Rho) : Own σ ρ σ ρ := fun _ _ _ a b => ⟨a, b⟩
theorem Own.trans {σ σ1 σ2 : L2.St} {ρ ρ1 ρ2 : Rho} (a : Own σ ρ σ1 ρ1) (b : Own σ1 ρ1 σ2 ρ2) : Own σ ρ σ2 ρ2 := fun i ds p e1 e2 => by
  obtain ⟨h1, h2⟩ := b i ds p e1 e2
  exact a i ds p h1 h2
theorem Stt.setLs : ∀ (is : List Nat) (ds : List PyData) (vs : List V) {σ : L2.St} {ρ ρ' : Rho}, Stt K mb js pn G H f σ ρ → setL is ds ρ = some ρ' → (∀ i ∈ is, i ≠ js) → RpA K G vs ds →
    ∃ σ', Stt K mb js pn G H f σ' ρ' ∧ (∀ Q : L2.St → Hp → Prop, Q σ' H → gNs is vs σ H Q) ∧ (∀ ws : List Nat, (∀ i ∈ is, i ∈ ws) → wipe σ' ws = wipe σ ws) ∧ Own σ ρ σ' ρ'
  | [], [], vs, σ, ρ, ρ', S, e, hj, r => by
    cases r
    cases e
    exact ⟨σ, S, fun Q q => ⟨rfl, q⟩, fun _ _ => rfl, Own.refl σ ρ⟩
  | i :: is, d :: ds, vs, σ, ρ, ρ', S, e, hj, r => by
    cases r with
    | cons r1 r2 =>
      rename_i v vs'
      obtain ⟨S1, O1⟩ := S.set1 (hj i List.mem_cons_self) r1
      obtain ⟨σ', S', k1, k2, O2⟩ := Stt.setLs is ds vs' S1 e (fun k hk => hj k (List.mem_cons_of_mem _ hk)) r2
      refine ⟨σ', S', fun Q q => ⟨v, vs', rfl, k1 Q q⟩, fun ws hw => ?_, O1.trans O2⟩
      rw [k2 ws fun k hk => hw k (List.mem_cons_of_mem _ hk), wipe_set (hw i List.mem_cons_self)]
  | [], _ :: _, _, _, _, _, _, e, _, _ => by cases e
  | _ :: _, [], _, _, _, _, _, e, _, _ => by cases e
theorem RpA.len_set : ∀ {is : List Nat} {ds : List PyData} {ρ ρ' : Rho}, setL is ds ρ = some ρ' → ds.length = is.length
  | [], [], _, _, _ => rfl
  | i :: is, d :: ds, ρ, ρ', e => by rw [List.length_cons, List.length_cons, RpA.len_set (ρ := ρ.set i (.d d)) e]
  | [], _ :: _, _, _, e => by cases e
  | _ :: _, [], _, _, e => by cases e
theorem Stt.setTg (S : Stt K mb js pn G H f σ ρ) {tg : Tg} {v : V} {d : PyData} (e : setT tg d ρ = some ρ') (hj : ∀ i ∈ tg.sl, i ≠ js) (r : Rp K G v d) :
    ∃ σ', Stt K mb js pn G H f σ' ρ' ∧ (∀ Q : L2.St → Hp → Prop, Q σ' H → tgG K tg v σ H Q) ∧ (∀ ws : List Nat, (∀ i ∈ tg.sl, i ∈ ws) → wipe σ' ws = wipe σ ws) ∧ Own σ ρ σ' ρ' := by
  cases tg with
  | n i =>
    cases e
    obtain ⟨S1, O1⟩ := S.set1 (hj i List.mem_cons_self) r
    exact ⟨_, S1, fun Q q => q, fun ws hw => wipe_set (hw i List.mem_cons_self), O1⟩
  | t is =>
    cases r <;> first
      | (cases e; done)
      | (rename_i a xs ds ha ra
         first
           | (obtain ⟨σ', S', k1, k2, O2⟩ := Stt.setLs is ds xs S e hj ra
              exact ⟨σ', S', fun Q q => ⟨a, xs, rfl, sqT_mono S.gh ha, by rw [ra.len, RpA.len_set e], k1 Q q⟩, k2, O2⟩)
           | (cases e; done))
  | l is =>
    cases r <;> first
      | (cases e; done)
      | (rename_i a xs ds ha ra
         first
           | (obtain ⟨σ', S', k1, k2, O2⟩ := Stt.setLs is ds xs S e hj ra
              exact ⟨σ', S', fun Q q => ⟨a, xs, rfl, SqL.of (S.gh _ _ ha), by rw [ra.len, RpA.len_set e], k1 Q q⟩, k2, O2⟩)
           | (cases e; done))
end

abbrev DI := Rho → Nat → (List PyData → Nat → Prop) → Prop
structure Itd (K : PySem.W.Frag) (J : It) (G1 : Hp) (items : List PyData) : Prop where
  go : ∀ i H, i < items.length → Same G1 H → J.go i H
  st : ∀ H, Same G1 H → J.stop items.length H
  yl : ∀ i H x H' d, items[i]? = some d → Same G1 H → J.yld i H x H' → ∀ G, Same G1 G → Same G H → ∃ G', Go none G H G' H' ∧ Rp K G' x d
def SimI (K : PySem.W.Frag) (mb : Option Addr) (js : Nat) (pn : Option V) (wi : TI) (di : DI) : Prop := ∀ (G H : Hp) (f : Nat) (σ : L2.St) (ρ : Rho) (P : List PyData → Nat → Prop), Stt K mb js pn G H f σ ρ → di ρ f P →
  ∀ R : It → Hp → Prop, (∀ J items f' G' H', Go mb G H G' H' → Bag mb f' H' → Itd K J G' items → P items f' → R J H') → wi σ H R
structure XI (X : Cx) (mb : Option Addr) (js : Nat) (pn : Option V) (tg e : Expr) (wi : TI) (di : DI) : Prop where
  pe : PI X tg e wi
  sm : SimI X.K mb js pn wi di
def iLst (de : DE) : DI := fun ρ f P => de ρ f fun x f1 => match x with
  | .list ds => P ds f1
  | _ => False
def iTpl (de : DE) : DI := fun ρ f P => de ρ f fun x f1 => match x with
  | .tuple ds => P ds f1
  | _ => False
def rangeD (lo : Int) (n : Nat) : List PyData := (List.range n).map fun (k : Nat) => PyData.int (lo + (k : Int))
def iRg1 (da : DA) : DI := fun ρ f P => da ρ f fun ds f1 => match ds with
  | [.int j] => (-(2 ^ 62) ≤ j ∧ j < 2 ^ 62) ∧ P (rangeD 0 j.toNat) f1
  | _ => False
def iRg2 (da : DA) : DI := fun ρ f P => da ρ f fun ds f1 => match ds with
  | [.int i, .int j] => (-(2 ^ 62) ≤ i ∧ i < 2 ^ 62 ∧ -(2 ^ 62) ≤ j ∧ j < 2 ^ 62) ∧ P (rangeD i (j - i).toNat) f1
  | _ => False
def enumD : Nat → List PyData → List PyData
  | _, [] => []
  | k, d :: ds => .tuple [.int (k : Int), d] :: enumD (k + 1) ds
def zipD : List PyData → List PyData → List PyData
  | x :: xs, y :: ys => .tuple [x, y] :: zipD xs ys
  | _, _ => []
def iEnD (da : DA) : DI := fun ρ f P => da ρ f fun ds f1 => match ds with
  | [.list es] => P (enumD 0 es) f1
  | _ => False
def iZpL (da : DA) : DI := fun ρ f P => da ρ f fun ds f1 => match ds with
  | [.list es, .list fs] => P (zipD es fs) f1
  | _ => False
def iZpT (da : DA) : DI := fun ρ f P => da ρ f fun ds f1 => match ds with
  | [.tuple es, .tuple fs] => P (zipD es fs) f1
  | _ => False
theorem enumD_len : ∀ (k : Nat) (ds : List PyData), (enumD k ds).length = ds.length
  | _, [] => rfl
  | k, d :: ds => by
    unfold enumD
    rw [List.length_cons, List.length_cons, enumD_len (k + 1) ds]
theorem enumD_get : ∀ (k : Nat) (ds : List PyData) (i : Nat) (d : PyData), (enumD k ds)[i]? = some d → ∃ x, ds[i]? = some x ∧ d = .tuple [.int ((k + i : Nat) : Int), x]
  | _, [], i, d, e => by
    unfold enumD at e
    cases e
  | k, x :: ds, 0, d, e => by
    unfold enumD at e
    cases e
    exact ⟨x, rfl, rfl⟩
  | k, x :: ds, i + 1, d, e => by
    unfold enumD at e
    obtain ⟨y, h1, h2⟩ := enumD_get (k + 1) ds i d e
    refine ⟨y, h1, ?_⟩
    rw [h2, show k + 1 + i = k + (i + 1) by omega]
theorem zipD_len : ∀ (ds es : List PyData), (zipD ds es).length = min ds.length es.length
  | [], es => by
    unfold zipD
    simp
  | d :: ds, [] => by
    unfold zipD
    simp
  | d :: ds, e :: es => by
    unfold zipD
    rw [List.length_cons, List.length_cons, List.length_cons, zipD_len ds es]
    omega
theorem zipD_get : ∀ (ds es : List PyData) (i : Nat) (d : PyData), (zipD ds es)[i]? = some d → ∃ x y, ds[i]? = some x ∧ es[i]? = some y ∧ d = .tuple [x, y]
  | [], es, i, d, e => by
    unfold zipD at e
    cases e
  | x :: ds, [], i, d, e => by
    unfold zipD at e
    cases e
  | x :: ds, y :: es, 0, d, e => by
    unfold zipD at e
    cases e
    exact ⟨x, y, rfl, rfl, rfl⟩
  | x :: ds, y :: es, i + 1, d, e => by
    unfold zipD at e
    exact zipD_get ds es i d e
theorem go_pair {K : PySem.W.Frag} {G H : Hp} {T : Addr} {x y : V} {d e : PyData} (gh : Same G H) (hT : H T = none) (rx : Rp K G x d) (ry : Rp K G y e) : ∃ G', Go none G H G' (upd H T (.tup [x, y])) ∧ Rp K G' (.ref T) (.tuple [d, e]) :=
  ⟨_, go_new gh hT, .tup (.inl (.inl upd_same)) ((RpA.cons rx (.cons ry .nil)).mono (same_new (same_none gh hT)))⟩
section
variable {X : Cx} {mb : Option Addr} {js : Nat} {pn : Option V} {tg e a b : Expr} {es : List Expr} {te : TE} {de : DE} {ta : TA} {da : DA} {n : Nat} {p pos tpos : Pos} {elts : List Expr} {kk : Nat}
theorem xi_list (h : XE X mb js pn e te de) : XI X mb js pn tg e (iList X.K te) (iLst de) := ⟨pi_list h.pe, fun G H f σ ρ P S q R k => h.sm G H f σ ρ _ S q _ fun v d f1 G1 H1 g1 b1 r1 q1 => by
  cases r1 <;> first
    | exact q1.elim
    | (rename_i a xs ds ha ra
       have w := walk_list (K := X.K) (a := a) (xs := xs)
       have hl := ra.len
       refine ⟨a, rfl, ⟨xs, SqL.of (g1.gh _ _ ha)⟩, k _ ds f1 G1 H1 g1 b1 ⟨fun i H' hi s => w.goes i H' (by omega) (SqL.of (s _ _ ha)), fun H' s => ?_, fun i H' x H2 d hd s y G2 s2 s3 => ?_⟩ q1⟩
       · rw [← hl]
         exact w.stops H' (SqL.of (s _ _ ha))
       · have hi : i < xs.length := by
           rw [hl]
           exact (List.getElem?_eq_some_iff.mp hd).1
         obtain ⟨e1, e2⟩ := w.yields i H' x H2 hi (SqL.of (s _ _ ha)) y
         subst e1
         obtain ⟨v, h1, h2⟩ := ra.get hd
         rw [h1] at e2
         cases e2
         exact ⟨G2, Go.refl s3, h2.mono s2⟩)⟩
theorem xi_tup (h : XE X mb js pn e te de) : XI X mb js pn tg e (iTup X.K te) (iTpl de) := ⟨pi_tup h.pe, fun G H f σ ρ P S q R k => h.sm G H f σ ρ _ S q _ fun v d f1 G1 H1 g1 b1 r1 q1 => by
  cases r1 <;> first
    | exact q1.elim
    | (rename_i a xs ds ha ra
       have w := walk_tup (K := X.K) (a := a) (xs := xs)
       have hl := ra.len
       refine ⟨a, rfl, ⟨xs, sqT_mono g1.gh ha⟩, k _ ds f1 G1 H1 g1 b1 ⟨fun i H' hi s => w.goes i H' (by omega) (sqT_mono s ha), fun H' s => ?_, fun i H' x H2 d hd s y G2 s2 s3 => ?_⟩ q1⟩
       · rw [← hl]
         exact w.stops H' (sqT_mono s ha)
       · have hi : i < xs.length := by
           rw [hl]
           exact (List.getElem?_eq_some_iff.mp hd).1
         obtain ⟨e1, e2⟩ := w.yields i H' x H2 hi (sqT_mono s ha) y
         subst e1
         obtain ⟨v, h1, h2⟩ := ra.get hd
         rw [h1] at e2
         cases e2
         exact ⟨G2, Go.refl s3, h2.mono s2⟩)⟩
theorem itd_range {K : PySem.W.Frag} {G : Hp} (lo : Int) (n : Nat) : Itd K (Itr lo n) G (rangeD lo n) := by
  have hl : (rangeD lo n).length = n := by
    unfold rangeD
    rw [List.length_map, List.length_range]
  refine ⟨fun i H hi _ => by rw [hl] at hi; exact hi, fun H _ => by rw [hl]; exact Nat.le_refl _, fun i H x H' d hd s y G2 s2 s3 => ?_⟩
  obtain ⟨e1, e2⟩ := y
  subst e1
  subst e2
  unfold rangeD at hd
  rw [List.getElem?_map] at hd
  by_cases hi : i < n
  · rw [List.getElem?_range hi] at hd
    cases hd
    exact ⟨G2, Go.refl s3, .int _⟩
  · rw [List.getElem?_eq_none (by rw [List.length_range]; omega)] at hd
    cases hd
theorem xi_range1 (ha : XA X mb js pn [a] n ta da) (hg : Gl X "range") (hm : X.mg "range" = none) (hs : starEach [a] X.env = [(false, eval a X.env)] := by rfl) : XI X mb js pn tg (.Call (.Name "range" p) [a] [] pos) (iRng1 ta) (iRg1 da) :=
  ⟨pi_range1 hg hm ha.pe hs, fun G H f σ ρ P S q R k => ha.sm G H f σ ρ _ S q _ fun vs ds f1 G1 H1 l1 g1 b1 r1 q1 => by
    split at q1
    · rename_i j
      cases r1 with
      | cons r1 r2 =>
        cases r2
        cases r1
        exact ⟨j, rfl, q1.1.1, q1.1.2, k _ _ f1 G1 H1 g1 b1 (itd_range 0 _) q1.2⟩
    · exact q1.elim⟩
theorem xi_range2 (ha : XA X mb js pn [a, b] n ta da) (hg : Gl X "range") (hm : X.mg "range" = none) (hs : starEach [a, b] X.env = [(false, eval a X.env), (false, eval b X.env)] := by rfl) (hs2 : starEach [b] X.env = [(false, eval b X.env)] := by rfl) :
    XI X mb js pn tg (.Call (.Name "range" p) [a, b] [] pos) (iRng2 ta) (iRg2 da) :=
  ⟨pi_range2 hg hm ha.pe hs hs2, fun G H f σ ρ P S q R k => ha.sm G H f σ ρ _ S q _ fun vs ds f1 G1 H1 l1 g1 b1 r1 q1 => by
    split at q1
    · rename_i i j
      cases r1 with
      | cons r1 r2 => cases r2 with
        | cons r2 r3 =>
          cases r3
          cases r1
          cases r2
          exact ⟨i, j, rfl, q1.1, k _ _ f1 G1 H1 g1 b1 (itd_range i _) q1.2⟩
    · exact q1.elim⟩
theorem xi_enum (ha : XA X mb js pn [e] n ta da) (hg : Gl X "enumerate") (hm : X.mg "enumerate" = none) (hs : starEach [e] X.env = [(false, eval e X.env)] := by rfl) : XI X mb js pn (.Tuple elts kk tpos) (.Call (.Name "enumerate" p) [e] [] pos) (iEnum X.K ta) (iEnD da) :=
  ⟨pi_enum hg hm ha.pe hs, fun G H f σ ρ P S q R k => ha.sm G H f σ ρ _ S q _ fun vs ds f1 G1 H1 l1 g1 b1 r1 q1 => by
    split at q1
    · rename_i es
      cases r1 with
      | cons r1 r2 =>
        cases r2
        cases r1 with
        | lst h1 h2 =>
          rename_i ad xs
          have w := walk_enum (K := X.K) (a := ad) (xs := xs)
          have hl := h2.len
          refine ⟨ad, xs, rfl, SqL.of (g1.gh _ _ h1), k _ _ f1 G1 H1 g1 b1 ⟨fun i H' hi s => w.goes i H' (by rw [enumD_len] at hi; omega) (SqL.of (s _ _ h1)), fun H' s => ?_, fun i H' x H2 d hd s y G2 s2 s3 => ?_⟩ q1⟩
          · rw [enumD_len, ← hl]
            exact w.stops H' (SqL.of (s _ _ h1))
          · obtain ⟨z, hz, rfl⟩ := enumD_get _ _ _ _ hd
            have hi : i < xs.length := by
              rw [hl]
              exact (List.getElem?_eq_some_iff.mp hz).1
            obtain ⟨T, x1, x2, e1, e2, e3, e4, e5⟩ := w.yields i H' x H2 hi (SqL.of (s _ _ h1)) y
            obtain ⟨v, hv, rv⟩ := h2.get hz
            have e6 := hv.symm.trans e5
            cases e6
            cases e4
            subst e1
            subst e3
            rw [Nat.zero_add]
            exact go_pair s3 e2 (.int _) (rv.mono s2)
    · exact q1.elim⟩
theorem itd_zip {K : PySem.W.Frag} {J : It} {xs ys : List V} {ds es : List PyData} {G1 : Hp} {C : Hp → Prop} (w : Walk J (min xs.length ys.length) C (YPair (fun i => xs[i]?) (fun i => ys[i]?))) (hC : ∀ H, Same G1 H → C H) (r1 : RpA K G1 xs ds) (r2 : RpA K G1 ys es) : Itd K J G1 (zipD ds es) := by
  have h1 := r1.len
  have h2 := r2.len
  refine ⟨fun i H' hi s => w.goes i H' (by rw [zipD_len] at hi; omega) (hC _ s), fun H' s => ?_, fun i H' x H2 d hd s y G2 s2 s3 => ?_⟩
  · rw [zipD_len, ← h1, ← h2]
    exact w.stops H' (hC _ s)
  · obtain ⟨z, z2, hz, hz2, rfl⟩ := zipD_get _ _ _ _ hd
    have i1 := (List.getElem?_eq_some_iff.mp hz).1
    have i2 := (List.getElem?_eq_some_iff.mp hz2).1
    obtain ⟨T, x1, x2, e1, e2, e3, e4, e5⟩ := w.yields i H' x H2 (by omega) (hC _ s) y
    obtain ⟨v, hv, rv⟩ := r1.get hz
    obtain ⟨u, hu, ru⟩ := r2.get hz2
    have e6 := hv.symm.trans e4
    have e7 := hu.symm.trans e5
    cases e6
    cases e7
    subst e1
    subst e3
    exact go_pair s3 e2 (rv.mono s2) (ru.mono s2)
theorem walk_zipT {K : PySem.W.Frag} {a b : Addr} {xs ys : List V} : Walk (RZ.ItzT K a b) (min xs.length ys.length) (fun H => SqT K H a xs ∧ SqT K H b ys) (YPair (fun i => xs[i]?) (fun i => ys[i]?)) := by
  refine ⟨fun i _ hi c => ⟨xs, ys, xs[i]'(by omega), ys[i]'(by omega), c.1, c.2, by simp, by simp⟩, fun _ c => ⟨xs, ys, c.1, c.2, by omega⟩, fun i H v H' _ c y => ?_⟩
  obtain ⟨T, x, z, k1, k2, k3, k4, k5⟩ := y
  exact ⟨T, x, z, k1, k2, k3, k4 xs c.1, k5 ys c.2⟩
theorem xi_zipL (ha : XA X mb js pn [a, b] n ta da) (hg : Gl X "zip") (hm : X.mg "zip" = none) (hs : starEach [a, b] X.env = (false, eval a X.env) :: starEach [b] X.env := by rfl) (hpl : (backTo pos (starEach [b] X.env)).any (·.1) = false := by rfl) :
    XI X mb js pn (.Tuple elts kk tpos) (.Call (.Name "zip" p) [a, b] [] pos) (RZ.iZipA X.K ta) (iZpL da) := ⟨RZ.pi_zipA hg hm ha.pe hs hpl, fun G H f σ ρ P S q R k => ha.sm G H f σ ρ _ S q _ fun vs ds f1 G1 H1 l1 g1 b1 r1 q1 => by
    split at q1
    · cases r1 with
      | cons r1 r2 => cases r2 with
        | cons r2 r3 =>
          cases r3
          cases r1 with
          | lst h1 h2 => cases r2 with
            | lst h3 h4 => exact ⟨_, _, _, _, rfl, .inl ⟨SqL.of (g1.gh _ _ h1), SqL.of (g1.gh _ _ h3), k _ _ f1 G1 H1 g1 b1 (itd_zip (walk_zip rfl) (fun H' s => ⟨SqL.of (s _ _ h1), SqL.of (s _ _ h3)⟩) h2 h4) q1⟩⟩
    · exact q1.elim⟩
theorem xi_zipT (ha : XA X mb js pn [a, b] n ta da) (hg : Gl X "zip") (hm : X.mg "zip" = none) (hs : starEach [a, b] X.env = (false, eval a X.env) :: starEach [b] X.env := by rfl) (hpl : (backTo pos (starEach [b] X.env)).any (·.1) = false := by rfl) :
    XI X mb js pn (.Tuple elts kk tpos) (.Call (.Name "zip" p) [a, b] [] pos) (RZ.iZipA X.K ta) (iZpT da) := ⟨RZ.pi_zipA hg hm ha.pe hs hpl, fun G H f σ ρ P S q R k => ha.sm G H f σ ρ _ S q _ fun vs ds f1 G1 H1 l1 g1 b1 r1 q1 => by
    split at q1
    · cases r1 with
      | cons r1 r2 => cases r2 with
        | cons r2 r3 =>
          cases r3
          cases r1 with
          | tup h1 h2 => cases r2 with
            | tup h3 h4 => exact ⟨_, _, _, _, rfl, .inr ⟨sqT_mono g1.gh h1, sqT_mono g1.gh h3, k _ _ f1 G1 H1 g1 b1 (itd_zip walk_zipT (fun H' s => ⟨sqT_mono s h1, sqT_mono s h3⟩) h2 h4) q1⟩⟩
    · exact q1.elim⟩
/-- a list or a tuple -/
def iSeq (de : DE) : DI := fun ρ f P => de ρ f fun x f1 => match itemsOf x with
  | some ds => P ds f1
  | none => False
theorem pi_or {w1 w2 : TI} (h1 : PI X tg e w1) (h2 : PI X tg e w2) : PI X tg e (fun σ H R => w1 σ H R ∨ w2 σ H R) := ⟨fun pins s σ H R I h => by
  rcases h with h | h
  · exact h1.run pins s σ H R I h
  · exact h2.run pins s σ H R I h⟩
theorem sim_tup_ref {K : PySem.W.Frag} {te : TE} {de : DE} (h : Sim K mb js pn te de) {G H : Hp} {f : Nat} {σ : L2.St} {ρ : Rho} {P : PyData → Nat → Prop} (S : Stt K mb js pn G H f σ ρ) (q : de ρ f P) {Q : VK} (k : ∀ v d f' G' H', Go mb G H G' H' → Bag mb f' H' → Rp K G' v d → P d f' → Q v H') : te σ H Q := h G H f σ ρ P S q Q k
/-- a name that holds a list or a tuple -/
theorem xi_seq {i : Nat} (h : XE X mb js pn e (tVar i) (dVar i)) : XI X mb js pn tg e (fun σ H R => iList X.K (tVar i) σ H R ∨ iTup X.K (tVar i) σ H R) (iSeq (dVar i)) := ⟨pi_or (pi_list h.pe) (pi_tup h.pe), fun G H f σ ρ P S q R k => by
  unfold iSeq dVar at q
  split at q
  · rename_i x hx
    split at q
    · rename_i ds hd
      obtain ⟨v, hv, hr⟩ := S.ft i x hx
      cases x <;> first
        | (cases hd; done)
        | (cases hd
           first
             | exact .inl ((xi_list (tg := tg) h).sm G H f σ ρ P S (by unfold iLst dVar; rw [hx]; exact q) R k)
             | exact .inr ((xi_tup (tg := tg) h).sm G H f σ ρ P S (by unfold iTpl dVar; rw [hx]; exact q) R k))
    · exact q.elim
  · exact q.elim⟩
/-- subscripts, the minus sign, isinstance -/
theorem xe_ix {ta tb : TE} {da db : DE} (ha : XE X mb js pn a ta da) (hb : XE X mb js pn b tb db) (hs : PlainIx b := by exact fun _ _ => rfl) : XE X mb js pn (.Subscript a b pos) (tOp (rIx X.K) ta tb) (dOp rIxD da db) := ⟨pe_ix ix_seq ha.pe hb.pe hs, sim_op sim_ix ha.sm hb.sm⟩
def rNegD : PyData → (PyData → Prop) → Prop := fun x P => match x with
  | .int i => P (.int (-i))
  | _ => False
theorem xe_neg {ta : TE} {da : DE} (ha : XE X mb js pn a ta da) : XE X mb js pn (.UnaryOp .USub a pos) (tUn (rU fun i => .int (-i)) ta) (dUn rNegD da) := xe_un un_neg (fun H G x d P r q Q k => by
  cases r <;> first
    | exact q.elim
    | exact ⟨_, rfl, k _ _ (fun _ => .int _) q⟩) ha
/-- what type a datum has -/
def tyN : PyData → String
  | .none => "NoneType"
  | .bool _ => "bool"
  | .int _ => "int"
  | .str _ => "str"
  | .list _ => "list"
  | .tuple _ => "tuple"
  | .dict _ => "dict"
def isiD (T : String) (d : PyData) : Bool := tyN d == T || (tyN d == "bool" && T == "int")
structure IsiT (T : String) : Prop where
  k : ∀ n ∈ ["NoneType", "bool", "int", "str", "list", "tuple"], kitB n T = some (n == T || (n == "bool" && T == "int"))
theorem tyN_of {K : PySem.W.Frag} {G H : Hp} {v : V} {d : PyData} (gh : Same G H) (r : Rp K G v d) : TyX K H v (.type (tyN d)) ∧ tyN d ∈ ["NoneType", "bool", "int", "str", "list", "tuple"] := by
  cases r with
  | non => exact ⟨.base (by constructor), by simp [tyN]⟩
  | bl b => exact ⟨.base (by constructor), by simp [tyN]⟩
  | int i => exact ⟨.base (by constructor), by simp [tyN]⟩
  | str x => exact ⟨.base (by constructor), by simp [tyN]⟩
  | lst h1 h2 => exact ⟨.base (by constructor; exact gh _ _ h1), by simp [tyN]⟩
  | tup h1 h2 =>
    refine ⟨?_, by simp [tyN]⟩
    rcases sqT_mono gh h1 with (h | ⟨o, h⟩) | ⟨o, its, n, h, c, _⟩
    · exact .base (by constructor; exact h)
    · exact .fTuple h
    · exact .kTuple h c
def dIsi (T : String) (da : DE) : DE := fun ρ f P => da ρ f fun x f1 => P (.bool (isiD T x)) f1
theorem xe_isi {T : String} {ta : TE} {da : DE} {x y : Str} {py : Pos} (ha : XE X mb js pn a ta da) (h : IsiT T) (hg : Gl X x) (hm : X.mg x = none) (hgT : Gl X y) (hmT : X.mg y = none) (hv : bootBuiltins x = some (.builtin "isinstance")) (hvT : bootBuiltins y = some (.type T)) (hn : x ≠ "__name__" := by decide) (hdb : (x == ("__debug__" : Str)) = false := by decide) (hnT : y ≠ "__name__" := by decide) (hdbT : (y == ("__debug__" : Str)) = false := by decide)
    (he : starEach (a :: [.Name y py]) X.env = (false, eval a X.env) :: starEach [.Name y py] X.env := by rfl) (he2 : starEach (.Name y py :: []) X.env = (false, eval (.Name y py) X.env) :: starEach [] X.env := by rfl) (hpl : (backTo pos (starEach [.Name y py] X.env)).any (·.1) = false := by rfl) :
    XE X mb js pn (.Call (.Name x p) [a, .Name y py] [] pos) (tCB (rIsi X.K) (tCons ta (tCons (tC (.ty T)) tNil))) (dIsi T da) :=
  ⟨pe_callB call_isi hg hm hv (pa_cons ha.pe (pa_cons (pe_bltn hgT hmT hvT rfl hnT hdbT) pa_nil he2) he) hn hdb he hpl, fun G H f σ ρ P S q Q k => ha.sm G H f σ ρ _ S q _ fun v d f1 G1 H1 g1 b1 r1 q1 =>
    have t := tyN_of g1.gh r1
    ⟨v, .ty T, _, _, _, rfl, .ty T, t.1, kit_ty (h.k _ t.2), k _ _ f1 G1 H1 g1 b1 (.bl _) q1⟩⟩
theorem isi_int : IsiT "int" := ⟨by decide +kernel⟩
theorem isi_bool : IsiT "bool" := ⟨by decide +kernel⟩
theorem isi_str : IsiT "str" := ⟨by decide +kernel⟩
theorem isi_list : IsiT "list" := ⟨by decide +kernel⟩
theorem isi_tuple : IsiT "tuple" := ⟨by decide +kernel⟩
end
end TC
end Dt
namespace Dt
open PySem PySem.Spec PyProof.Rows L2
variable [TabG]
section TC
variable [TabC]

def wipeD (ρ : Rho) : List Nat → Rho
  | [] => ρ
  | v :: vs => (wipeD ρ vs).set v .u
def lcGo (tg : Tg) (tt : DT) (te : DE) (ρ : Rho) : List PyData → List PyData → Nat → (List PyData → Nat → Prop) → Prop
  | [], acc, f, P => P acc f
  | x :: xs, acc, f, P => match setT tg x ρ with
    | some ρ' => tt ρ' f fun c f1 => if c = true then te ρ' f1 fun d f2 => lcGo tg tt te ρ xs (acc ++ [d]) f2 P else lcGo tg tt te ρ xs acc f1 P
    | none => False
def dLc (di : DI) (tg : Tg) (tt : DT) (te : DE) (vs : List Nat) : DA := fun ρ f P => di ρ f fun items f1 => items.length < 16777216 ∧ lcGo tg tt te (wipeD ρ vs) items [] f1 P
def dYes : DT := fun _ f P => P true f
structure XTs (X : Cx) (mb : Option Addr) (js : Nat) (pn : Option V) (es : List Expr) (tt : TT) (dt : DT) : Prop where
  pe : PTs X es tt
  sm : SimT X.K mb js pn tt dt
theorem wipeD_len {ρ : Rho} : ∀ {vs : List Nat}, (wipeD ρ vs).length = ρ.length
  | [] => rfl
  | v :: vs => by
    unfold wipeD
    rw [List.length_set, wipeD_len]
theorem wipeD_at {ρ : Rho} {k : Nat} : ∀ {vs : List Nat}, (wipeD ρ vs)[k]? = if k ∈ vs then (if k < ρ.length then some .u else none) else ρ[k]?
  | [] => by simp [wipeD]
  | v :: vs => by
    unfold wipeD
    rw [List.getElem?_set, wipeD_at (vs := vs), wipeD_len]
    by_cases h : v = k
    · subst h
      simp
    · have h2 : ¬ k = v := fun e => h e.symm
      simp [h, h2]
section
variable {K : PySem.W.Frag} {mb : Option Addr} {js : Nat} {pn : Option V} {G H : Hp} {f : Nat} {σ : L2.St} {ρ : Rho}
theorem Stt.wipe (S : Stt K mb js pn G H f σ ρ) {vs : List Nat} (hj : ∀ i ∈ vs, i ≠ js) : Stt K mb js pn G H f (wipe σ vs) (wipeD ρ vs) := by
  have other : ∀ (k : Nat) (s : SV), s ≠ .u → (wipeD ρ vs)[k]? = some s → ρ[k]? = some s ∧ (L2.wipe σ vs)[k]? = σ[k]? := fun k s hs e => by
    rw [wipeD_at] at e
    split at e
    · split at e
      · cases e
        exact absurd rfl hs
      · cases e
    · rename_i h
      exact ⟨e, by rw [wipe_at, if_neg h]⟩
  exact { gh := S.gh, gb := S.gb, bi := S.bi, bj := fun b e => by
            rw [wipe_at, if_neg (fun h => hj js h rfl)]
            exact S.bj b e
          pj := fun v e => by
            rw [wipe_at, if_neg (fun h => hj js h rfl)]
            exact S.pj v e
          ln := by rw [wipe_length, wipeD_len]; exact S.ln
          ft := fun k d e => by
            obtain ⟨h1, h2⟩ := other k (SV.d d) (by intro z; cases z) e
            rw [h2]
            exact S.ft k d h1
          ow := fun k ds e => by
            obtain ⟨h1, h2⟩ := other k (SV.l ds) (by intro z; cases z) e
            rw [h2]
            exact S.ow k ds h1
          sp := fun i j ds es p e1 e2 => by
            obtain ⟨h1, h2⟩ := other i (SV.l ds) (by intro z; cases z) e1
            obtain ⟨h3, h4⟩ := other j (SV.l es) (by intro z; cases z) e2
            rw [h2, h4]
            exact S.sp i j ds es p h1 h3
          gf := fun k P e => by
            obtain ⟨h1, h2⟩ := other k (SV.g P) (by intro z; cases z) e
            rw [h2]
            exact S.gf k P h1
          tk := S.tk }
theorem Go.none_keep {G H G' H' : Hp} (g : Go mb G H G' H') {p : Addr} (gp : G p = none) (hp : H p ≠ none) : G' p = none := by
  cases e : G' p with
  | none => rfl
  | some o =>
    rcases g.nw p o e with z | z
    · rw [gp] at z
      cases z
    · exact absurd z hp
/-- an object that nobody knew of at the start is changed -/
theorem Go.mut {G H G' H' : Hp} (g : Go mb G H G' H') {p : Addr} {o : HO} (hp : H p = none) (gp : G' p = none) (hl : H' p = none ∨ ∃ xs, H' p = some (.lst xs)) : Go mb G H G' (upd H' p o) :=
  ⟨g.gg, fun a x e => by
      rw [upd_ne (ne_of_none e gp)]
      exact g.gh a x e, fun a x n t e => by
      rw [upd_ne (ne_of_none e hp)]
      exact g.hh a x n t e, fun a e => by
      by_cases h : a = p
      · subst h
        exact absurd hp e
      · rw [upd_ne h]
        exact g.hd a e, g.nw, fun x t => tabS_mut (g.tb x t) hl⟩
theorem Bag.upd {H : Hp} {p : Addr} {o : HO} (b : Bag mb f H) (n : mb ≠ some p) : Bag mb f (upd H p o) := fun a e => by
  obtain ⟨x, y, t, h, r⟩ := b a e
  refine ⟨x, y, t, ?_, r⟩
  rw [upd_ne (fun z => n (by rw [e, z]))]
  exact h
theorem bag_ne {p : Addr} (b : Bag mb f H) (hp : H p = none) : mb ≠ some p := fun e => by
  obtain ⟨x, y, t, h, _⟩ := b p e
  rw [hp] at h
  cases h
end
section
variable {X : Cx} {mb : Option Addr} {js : Nat} {pn : Option V}
theorem xts_nil : XTs X mb js pn [] tYes dYes := ⟨pts_nil, fun G H f σ ρ P S q Q k => k true f G H (Go.refl S.gh) S.bi q⟩
theorem xts_one {c : Expr} {tt : TT} {dt : DT} (h : XT X mb js pn c tt dt) : XTs X mb js pn [c] tt dt := ⟨pts_one h.pe, h.sm⟩
theorem lc_sim {K : PySem.W.Frag} {wi : TI} {di : DI} {tg : Tg} {tt : TT} {dt : DT} {te : TE} {de : DE} {vs : List Nat} (hi : SimI K mb js pn wi di) (ht : SimT K mb js pn tt dt) (he : Sim K mb js pn te de) (hj : ∀ i ∈ vs, i ≠ js) (hsl : ∀ i ∈ tg.sl, i ∈ vs) :
    SimN K mb js pn (tLc wi (tgG K tg) tt te vs) (dLc di tg dt de vs) := fun G H f σ ρ P S q Q k => hi G H f σ ρ _ S q _ fun J items f1 G1 H1 g1 b1 it q1 => by
  obtain ⟨hz, q1⟩ := q1
  intro D hD
  have Sw := (S.go g1 b1).wipe hj
  have nD : mb ≠ some D := bag_ne b1 hD
  let At : Nat → Hp → Prop := fun i H' => ∃ G' f' acc accv, Go mb G1 H1 G' H' ∧ Bag mb f' H' ∧ G' D = none ∧ H' D = some (.lst accv) ∧ RpA K G' accv acc ∧ accv.length ≤ i ∧ lcGo tg dt de (wipeD ρ vs) (items.drop i) acc f' P
  refine ⟨fun i m H' => m = items.length - i ∧ i ≤ items.length ∧ At i H', ⟨items.length, by omega, Nat.zero_le _, G1, f1, [], [], (Go.refl g1.gh).mut hD (same_none g1.gh hD) (.inl hD), b1.upd nD, same_none g1.gh hD, upd_same, .nil, Nat.le_refl _, q1⟩, ?_⟩
  rintro i m H' ⟨rfl, hi', G', f', acc, accv, g, b, gD, hD', ra, hl, go⟩
  by_cases hlt : i < items.length
  · right
    refine ⟨it.go i H' hlt (g.gg.trans g.gh), At (i + 1), fun H2 h => ⟨items.length - (i + 1), by omega, rfl, hlt, h⟩, fun x H2 y => ?_⟩
    obtain ⟨G2, g2, rx⟩ := it.yl i H' x H2 items[i] (List.getElem?_eq_getElem hlt) (g.gg.trans g.gh) y G' g.gg g.gh
    rw [List.drop_eq_getElem_cons hlt] at go
    unfold lcGo at go
    split at go
    · rename_i ρ' hρ
      have g12 := g.trans g2.pure
      have Sx := Sw.go g12 (b.pur g2)
      obtain ⟨σ', S', k1, k2, _⟩ := Sx.setTg hρ (fun i hi => hj i (hsl i hi)) rx
      refine k1 _ ⟨by rw [k2 vs hsl, wipe_wipe], ?_⟩
      have hD2 : H2 D = some (.lst accv) := g2.hh D _ (fun z => nomatch z) trivial hD'
      have gD2 : G2 D = none := g2.none_keep gD (by rw [hD']; exact Option.some_ne_none _)
      refine ht G2 H2 f' σ' ρ' _ S' go _ fun c f3 G3 H3 g3 b3 q3 => ?_
      have hD3 : H3 D = some (.lst accv) := g3.hh D _ nD trivial hD2
      have gD3 : G3 D = none := g3.none_keep gD2 (by rw [hD2]; exact Option.some_ne_none _)
      cases c with
      | true =>
        rw [if_pos rfl] at q3 ⊢
        refine he G3 H3 f3 σ' ρ' _ (S'.go g3 b3) q3 _ fun v d f4 G4 H4 g4 b4 r4 q4 => ?_
        have hD4 : H4 D = some (.lst accv) := g4.hh D _ nD trivial hD3
        have gD4 : G4 D = none := g4.none_keep gD3 (by rw [hD3]; exact Option.some_ne_none _)
        refine ⟨accv, hD4, by rw [sizeLine_eq]; omega, G4, f4, acc ++ [d], accv ++ [v], ((g12.trans g3).trans g4).mut hD gD4 (.inr ⟨_, hD4⟩), b4.upd nD, gD4, upd_same, (ra.mono ((g2.gg.trans g3.gg).trans g4.gg)).app (.one r4), ?_, q4⟩
        rw [List.length_append, List.length_singleton]
        omega
      | false =>
        rw [if_neg Bool.false_ne_true] at q3 ⊢
        exact ⟨G3, f3, acc, accv, g12.trans g3, b3, gD3, hD3, ra.mono (g2.gg.trans g3.gg), by omega, q3⟩
    · exact go.elim
  · left
    have e : i = items.length := by omega
    subst e
    rw [List.drop_length] at go
    exact ⟨it.st H' (g.gg.trans g.gh), k D accv acc f' G' H' (g1.trans g) b (none_back g1 hD) gD hD' ra go⟩
/-- the reading of a datum's reading -/
def teOf (K : PySem.W.Frag) (mb : Option Addr) (js : Nat) (pn : Option V) (de : DE) : TE := fun σ H Q => ∃ (G : Hp) (f : Nat) (ρ : Rho) (P : PyData → Nat → Prop), Stt K mb js pn G H f σ ρ ∧ de ρ f P ∧ ∀ v d f' G' H', Go mb G H G' H' → Bag mb f' H' → Rp K G' v d → P d f' → Q v H'
def ttOf (K : PySem.W.Frag) (mb : Option Addr) (js : Nat) (pn : Option V) (dt : DT) : TT := fun σ H Q => ∃ (G : Hp) (f : Nat) (ρ : Rho) (P : Bool → Nat → Prop), Stt K mb js pn G H f σ ρ ∧ dt ρ f P ∧ ∀ b f' G' H', Go mb G H G' H' → Bag mb f' H' → P b f' → Q b H'
theorem sim_teOf {K : PySem.W.Frag} {de : DE} : Sim K mb js pn (teOf K mb js pn de) de := fun G H f σ ρ P S q Q k => ⟨G, f, ρ, P, S, q, k⟩
theorem sim_ttOf {K : PySem.W.Frag} {dt : DT} : SimT K mb js pn (ttOf K mb js pn dt) dt := fun G H f σ ρ P S q Q k => ⟨G, f, ρ, P, S, q, k⟩
theorem XE.can {e : Expr} {de : DE} (h : ∃ te, XE X mb js pn e te de) : PE X e (teOf X.K mb js pn de) := ⟨fun pins s σ H Q I q => by
  obtain ⟨te, h⟩ := h
  obtain ⟨G, f, ρ, P, S, q, k⟩ := q
  exact h.pe.run pins s σ H Q I (h.sm G H f σ ρ P S q Q k)⟩
theorem XTs.can {es : List Expr} {dt : DT} (h : ∃ tt, XTs X mb js pn es tt dt) : PTs X es (ttOf X.K mb js pn dt) := ⟨fun pins s σ H Q I q => by
  obtain ⟨tt, h⟩ := h
  obtain ⟨G, f, ρ, P, S, q, k⟩ := q
  exact h.pe.run pins s σ H Q I (h.sm G H f σ ρ P S q Q k)⟩
theorem xn_lc {elt tge iter : Expr} {ifs : List Expr} {scope : Scope} {own : List (Str × Nat)} {pos : Pos} {wi : TI} {di : DI} {tg : Tg} {dt : DT} {de : DE} (hN : X.N.Nodup) (hi : XI X mb js pn tge iter wi di) (ok : BlkOk X.N X.env.scope scope own)
    (hg : ∀ (s : Shared) (H : Hp) (C : Addr) (cl : List (Str × Addr)) (fp : List Addr), PG (X.blk s H scope (compEnvC scope cl C X.env) fp) tge (tgG X.K tg))
    (ht : ∀ (s : Shared) (H : Hp) (C : Addr) (cl : List (Str × Addr)) (fp : List Addr), ∃ tt, XTs (X.blk s H scope (compEnvC scope cl C X.env) fp) mb js pn ifs tt dt)
    (he : ∀ (s : Shared) (H : Hp) (C : Addr) (cl : List (Str × Addr)) (fp : List Addr), ∃ te, XE (X.blk s H scope (compEnvC scope cl C X.env) fp) mb js pn elt te de)
    (hc : X.calm = true := by rfl) (hj : ∀ i ∈ own.map (·.2), i ≠ js := by decide) (hsl : ∀ i ∈ tg.sl, i ∈ own.map (·.2) := by decide) (hs : ∀ x, foldedSetIterable iter X.env x = pure x := by intro _; rfl) :
    XN X mb js pn (.ListComp elt [⟨tge, iter, ifs, 0⟩] scope pos) (tLc wi (tgG X.K tg) (ttOf X.K mb js pn dt) (teOf X.K mb js pn de) (own.map (·.2))) (dLc di tg dt de (own.map (·.2))) :=
  ⟨pe_lc hc hN hi.pe ok hg (fun s H C cl fp => XTs.can (ht s H C cl fp)) (fun s H C cl fp => XE.can (he s H C cl fp)) hs, lc_sim hi.sm sim_ttOf sim_teOf hj hsl⟩
end

/-- pure: data in, a datum out -/
def spP (K : PySem.W.Frag) (w : RCD) : Sp := fun vs H Q _ => ∃ (G : Hp) (ds : List PyData) (P : PyData → Prop), Same G H ∧ RpA K G vs ds ∧ w ds P ∧ ∀ v d G' H', Go none G H G' H' → Rp K G' v d → P d → Q v H'
/-- pure: a new list out -/
def spN (K : PySem.W.Frag) (w : List PyData → (List PyData → Prop) → Prop) : Sp := fun vs H Q _ => ∃ (G : Hp) (ds : List PyData) (P : List PyData → Prop), Same G H ∧ RpA K G vs ds ∧ w ds P ∧
  ∀ p us es G' H', Go none G H G' H' → H p = none → G' p = none → H' p = some (.lst us) → RpA K G' us es → P es → Q (.ref p) H'
/-- it draws from the bag, its first argument -/
def spB (K : PySem.W.Frag) (w : List PyData → Nat → (PyData → Nat → Prop) → Prop) : Sp := fun vs H Q _ => ∃ (b : Addr) (us : List V) (G : Hp) (f : Nat) (ds : List PyData) (P : PyData → Nat → Prop), vs = .ref b :: us ∧ Same G H ∧ G b = none ∧ Bag (some b) f H ∧ RpA K G us ds ∧ w ds f P ∧
  ∀ v d f' G' H', Go (some b) G H G' H' → Bag (some b) f' H' → Rp K G' v d → P d f' → Q v H'
/-- a def of the module by its name -/
structure Fn (P : Program) (w : World) (K : PySem.W.Frag) (mg : Str → Option Value) (base : Heap) (x : Str) (k : Nat) (ps : List Str) (sp : Sp) : Prop where
  ex : ∃ (f : Addr) (fd : FuncData), FnOk P w K mg base CX0 k f fd ps sp ∧ mg x = some (.ref f) ∧ PySem.W.keepIn K (.ref f) = true ∧ Binds K fd ps []
def dCall (w : RCD) (das : DA) : DE := fun ρ f P => das ρ f fun ds f1 => w ds fun d => P d f1
def dCallN (w : List PyData → (List PyData → Prop) → Prop) (das : DA) : DA := fun ρ f P => das ρ f fun ds f1 => w ds fun d => P d f1
def dCallB (w : List PyData → Nat → (PyData → Nat → Prop) → Prop) (das : DA) : DE := fun ρ f P => das ρ f fun ds f1 => w ds f1 P
section
variable {X : Cx} {mb : Option Addr} {js : Nat} {pn : Option V} {e : Expr} {es : List Expr} {tas : TA} {das : DA} {n k k' : Nat} {ps : List Str} {x : Str} {p pos : Pos}
theorem xe_call {w : RCD} (F : Fn X.prog X.w X.K X.mg X.base x k ps (spP X.K w)) (hr : Room k' X.A) (hg : Gl X x) (ha : XA X mb js pn (e :: es) n tas das) (hk : k ≤ k' := by decide) (hdb : (x == ("__debug__" : Str)) = false := by decide)
    (he : starEach (e :: es) X.env = (false, eval e X.env) :: starEach es X.env := by rfl) (hpl : (backTo pos (starEach es X.env)).any (·.1) = false := by rfl) : XE X mb js pn (.Call (.Name x p) (e :: es) [] pos) (tCall (spP X.K w) [] E0 tas) (dCall w das) := by
  obtain ⟨f, fd, F1, hm, hk1, hb⟩ := F.ex
  refine ⟨pe_call F1 (hr.mono hk) hg hm hk1 hb .nil pass0 ha.pe hdb he hpl, fun G H f σ ρ P S q Q kk => ha.sm G H f σ ρ _ S q _ fun vs ds f1 G1 H1 l1 g1 b1 r1 q1 => ?_⟩
  show spP X.K w (vs ++ []) H1 Q E0
  rw [List.append_nil]
  exact ⟨G1, ds, _, g1.gh, r1, q1, fun v d G' H' g r pd => kk v d f1 G' H' (g1.trans g.pure) (b1.pur g) r pd⟩
theorem xn_call {w : List PyData → (List PyData → Prop) → Prop} (F : Fn X.prog X.w X.K X.mg X.base x k ps (spN X.K w)) (hr : Room k' X.A) (hg : Gl X x) (ha : XA X mb js pn (e :: es) n tas das) (hk : k ≤ k' := by decide) (hdb : (x == ("__debug__" : Str)) = false := by decide)
    (he : starEach (e :: es) X.env = (false, eval e X.env) :: starEach es X.env := by rfl) (hpl : (backTo pos (starEach es X.env)).any (·.1) = false := by rfl) : XN X mb js pn (.Call (.Name x p) (e :: es) [] pos) (tCall (spN X.K w) [] E0 tas) (dCallN w das) := by
  obtain ⟨f, fd, F1, hm, hk1, hb⟩ := F.ex
  refine ⟨pe_call F1 (hr.mono hk) hg hm hk1 hb .nil pass0 ha.pe hdb he hpl, fun G H f σ ρ P S q Q kk => ha.sm G H f σ ρ _ S q _ fun vs ds f1 G1 H1 l1 g1 b1 r1 q1 => ?_⟩
  show spN X.K w (vs ++ []) H1 Q E0
  rw [List.append_nil]
  exact ⟨G1, ds, _, g1.gh, r1, q1, fun p us es G' H' g hp gp hv r pd => kk p us es f1 G' H' (g1.trans g.pure) (b1.pur g) (none_back g1 hp) gp hv r pd⟩
/-- a call that draws from the bag -/
theorem xe_draw {b : Addr} {y : Str} {py : Pos} {w : List PyData → Nat → (PyData → Nat → Prop) → Prop} (F : Fn X.prog X.w X.K X.mg X.base x k ps (spB X.K w)) (hr : Room k' X.A) (hg : Gl X x) (ha : XA X (some b) js pn es n tas das) (hk : k ≤ k' := by decide)
    (hN : X.N[js]? = some y := by rfl) (hv : Vis X.env.scope y := by first | exact Or.inl rfl | exact Or.inr (Or.inl rfl) | exact Or.inr (Or.inr rfl)) (hdb : (x == ("__debug__" : Str)) = false := by decide) (hd : (y == ("__debug__" : Str)) = false := by decide) (hcd : (y == ("__classdict__" : Str)) = false := by decide)
    (he : starEach (.Name y py :: es) X.env = (false, eval (.Name y py) X.env) :: starEach es X.env := by rfl) (hpl : (backTo pos (starEach es X.env)).any (·.1) = false := by rfl) :
    XE X (some b) js pn (.Call (.Name x p) (.Name y py :: es) [] pos) (tCall (spB X.K w) [] E0 (tCons (tVar js) tas)) (dCallB w das) := by
  obtain ⟨f, fd, F1, hm, hk1, hb⟩ := F.ex
  refine ⟨pe_call F1 (hr.mono hk) hg hm hk1 hb .nil pass0 (pa_cons (pe_var hN hv hd hcd) ha.pe he) hdb he hpl, fun G H f σ ρ P S q Q kk => ⟨.ref b, S.bj b rfl, ha.sm G H f σ ρ _ S q _ fun vs ds f1 G1 H1 l1 g1 b1 r1 q1 => ?_⟩⟩
  show spB X.K w (.ref b :: (vs ++ [])) H1 Q E0
  rw [List.append_nil]
  exact ⟨b, vs, G1, f1, ds, P, rfl, g1.gh, g1.bagNone S.bi rfl (S.gb b rfl), b1, r1, q1, fun v d f' G' H' g bb r pd => kk v d f' G' H' (g1.trans g) bb r pd⟩
end
end TC
end Dt
namespace Dt
open PySem PySem.Spec PyProof.Rows L2
variable [TabG]
section TC
variable [TabC]

structure DEnds where
  nx : Rho → Nat → Prop
  rt : PyData → Nat → Prop
  rn : List PyData → Nat → Prop := fun _ _ => False
  bk : Rho → Nat → Prop := fun _ _ => False
  ct : Rho → Nat → Prop := fun _ _ => False
  wx : L2.XK := fun _ _ _ => False
  rs : Addr → Prop := fun _ => False
/-- what is raised: the class C -/
structure Xt (mb : Option Addr) (G0 H0 : Hp) (wx : L2.XK) (rs : Addr → Prop) : Prop where
  rs : ∀ (C : Addr) (f : Nat) (G H : Hp), Go mb G0 H0 G H → Bag mb f H → rs C → wx (.ref C) none H
theorem Xt.no {mb : Option Addr} {G0 H0 : Hp} {wx : L2.XK} : Xt mb G0 H0 wx (fun _ => False) := ⟨fun _ _ _ _ _ _ z => absurd z id⟩
abbrev DS := DEnds → Rho → Nat → Prop
/-- the state within a def: L is known, entry (G0, H0) -/
def At (K : PySem.W.Frag) (mb : Option Addr) (js : Nat) (pn : Option V) (L G0 H0 : Hp) (ρ : Rho) (f : Nat) (σ : L2.St) (H : Hp) : Prop := ∃ G, Stt K mb js pn G H f σ ρ ∧ Go mb G0 H0 G H ∧ Same L G ∧ ∀ (i : Nat) (ds : List PyData) (p : Addr), ρ[i]? = some (SV.l ds) → σ[i]? = some (some (V.ref p)) → H0 p = none
structure Lf (K : PySem.W.Frag) (mb : Option Addr) (js : Nat) (pn : Option V) (L G0 H0 : Hp) (D : DEnds) (E : Ends) : Prop where
  nx : ∀ ρ f σ H, At K mb js pn L G0 H0 ρ f σ H → D.nx ρ f → E.nx σ H
  rt : ∀ v d f G H, Go mb G0 H0 G H → Bag mb f H → Rp K G v d → D.rt d f → E.rt v H
  rn : ∀ p vs ds f G H, Go mb G0 H0 G H → Bag mb f H → H0 p = none → G p = none → H p = some (.lst vs) → RpA K G vs ds → D.rn ds f → E.rt (.ref p) H
  bk : ∀ ρ f σ H, At K mb js pn L G0 H0 ρ f σ H → D.bk ρ f → E.bk σ H
  ct : ∀ ρ f σ H, At K mb js pn L G0 H0 ρ f σ H → D.ct ρ f → E.ct σ H
  xx : Xt mb G0 H0 D.wx D.rs
def SimS (K : PySem.W.Frag) (mb : Option Addr) (js : Nat) (pn : Option V) (ts : TS) (ds : DS) : Prop := ∀ (L G0 H0 : Hp) (D : DEnds) (E : Ends) (ρ : Rho) (f : Nat) (σ : L2.St) (H : Hp), At K mb js pn L G0 H0 ρ f σ H → ds D ρ f → Lf K mb js pn L G0 H0 D E → ts E σ H
structure XS (X : Cx) (mb : Option Addr) (js : Nat) (pn : Option V) (st : Stmt) (ts : TS) (ds : DS) : Prop where
  pe : PS X st ts
  sm : SimS X.K mb js pn ts ds
structure XSs (X : Cx) (mb : Option Addr) (js : Nat) (pn : Option V) (st : List Stmt) (ts : TS) (ds : DS) : Prop where
  pe : PSs X st ts
  sm : SimS X.K mb js pn ts ds

def dNext : DS := fun D ρ f => D.nx ρ f
def dSeq (s t : DS) : DS := fun D ρ f => s { D with nx := fun ρ' f' => t D ρ' f' } ρ f
def dNever : DS := fun _ _ _ => False
def dBreak : DS := fun D ρ f => D.bk ρ f
def dCont : DS := fun D ρ f => D.ct ρ f
def dSet (i : Nat) (de : DE) : DS := fun D ρ f => de ρ f fun d f1 => D.nx (ρ.set i (.d d)) f1
def isScal : PyData → Bool
  | .none => true
  | .bool _ => true
  | .int _ => true
  | .str _ => true
  | _ => false
/-- lists of one's own may be read: the value is no object -/
def dSetB (i : Nat) (de : DE) : DS := fun D ρ f => de (vw ρ) f fun d f1 => isScal d = true ∧ D.nx (ρ.set i (.d d)) f1
def dSetL (i : Nat) (dn : DA) : DS := fun D ρ f => dn ρ f fun ds f1 => D.nx (ρ.set i (.l ds)) f1
def dTg (tg : Tg) (de : DE) : DS := fun D ρ f => de ρ f fun d f1 => match setT tg d ρ with
  | some ρ' => D.nx ρ' f1
  | none => False
def dApp (i : Nat) (de : DE) : DS := fun D ρ f => match ρ[i]? with
  | some (SV.l ds) => de ρ f fun d f1 => ds.length < 16777216 ∧ D.nx (ρ.set i (.l (ds ++ [d]))) f1
  | _ => False
def dExpr (de : DE) : DS := fun D ρ f => de (vw ρ) f fun _ f1 => D.nx ρ f1
def dIf (t : DT) (a b : DS) : DS := fun D ρ f => t (vw ρ) f fun c f1 => if c = true then a D ρ f1 else b D ρ f1
def dRet (de : DE) : DS := fun D ρ f => de (vw ρ) f fun d f1 => D.rt d f1
def dRetN (dn : DA) : DS := fun D ρ f => dn ρ f fun d f1 => D.rn d f1
def dRetO (i : Nat) : DS := fun D ρ f => match ρ[i]? with
  | some (SV.l ds) => D.rn ds f
  | _ => False
def dRet0 : DS := fun D _ f => D.rt .none f
def dPar (i j : Nat) (a b : DE) : DS := fun D ρ f => a ρ f fun x f1 => b ρ f1 fun y f2 => D.nx ((ρ.set i (.d x)).set j (.d y)) f2
def dParDL (i j : Nat) (a : DE) (b : DA) : DS := fun D ρ f => a ρ f fun x f1 => b ρ f1 fun y f2 => D.nx ((ρ.set i (.d x)).set j (.l y)) f2
def dParLD (i j : Nat) (a : DA) (b : DE) : DS := fun D ρ f => a ρ f fun x f1 => b ρ f1 fun y f2 => D.nx ((ρ.set i (.l x)).set j (.d y)) f2
def dParLL (i j : Nat) (a b : DA) : DS := fun D ρ f => a ρ f fun x f1 => b ρ f1 fun y f2 => D.nx ((ρ.set i (.l x)).set j (.l y)) f2
def forGo (tg : Tg) (body : DS) : List PyData → DS
  | [], D, ρ, f => D.nx ρ f
  | x :: xs, D, ρ, f => match setT tg x ρ with
    | some ρ' => body { D with nx := fun ρ1 f1 => forGo tg body xs D ρ1 f1, ct := fun ρ1 f1 => forGo tg body xs D ρ1 f1, bk := D.nx } ρ' f
    | none => False
def dFor (tg : Tg) (di : DI) (body : DS) : DS := fun D ρ f => di ρ f fun items f1 => forGo tg body items D ρ f1
/-- by an invariant of what is left -/
def dForI (tg : Tg) (di : DI) (body : DS) : DS := fun D ρ f => di ρ f fun items f1 => ∃ Inv : List PyData → Rho → Nat → Prop, Inv items ρ f1 ∧ (∀ x xs ρ f, Inv (x :: xs) ρ f → match setT tg x ρ with
  | some ρ' => body { D with nx := Inv xs, ct := Inv xs, bk := D.nx } ρ' f
  | none => False) ∧ ∀ ρ f, Inv [] ρ f → D.nx ρ f
def dWhile (t : DT) (body : DS) : DS := fun D ρ f => ∃ W : Nat → Rho → Nat → Prop, (∃ m, W m ρ f) ∧ ∀ m ρ f, W m ρ f → t (vw ρ) f fun c f1 => if c = true then body { D with nx := fun ρ' f' => ∃ m', m' < m ∧ W m' ρ' f', ct := fun ρ' f' => ∃ m', m' < m ∧ W m' ρ' f', bk := D.nx } ρ f1 else D.nx ρ f1

section
variable {K : PySem.W.Frag} {mb : Option Addr} {js : Nat} {pn : Option V} {L G0 H0 : Hp} {f : Nat} {σ : L2.St} {ρ : Rho} {H : Hp} {D : DEnds} {E : Ends}
theorem Lf.seq {t : TS} {d : DS} (h : Lf K mb js pn L G0 H0 D E) (s : SimS K mb js pn t d) : Lf K mb js pn L G0 H0 { D with nx := fun ρ' f' => d D ρ' f' } { E with nx := t E } :=
  ⟨fun ρ f σ H a q => s L G0 H0 D E ρ f σ H a q h, h.rt, h.rn, h.bk, h.ct, h.xx⟩
theorem sim_seq {t u : TS} {d e : DS} (h1 : SimS K mb js pn t d) (h2 : SimS K mb js pn u e) : SimS K mb js pn (tSeq t u) (dSeq d e) := fun L G0 H0 D E ρ f σ H a q l => h1 L G0 H0 _ _ ρ f σ H a q (l.seq h2)
/-- behind an expression that keeps what became known -/
theorem At.go {G G' H' : Hp} {f' : Nat} (S : Stt K mb js pn G H f σ ρ) (g0 : Go mb G0 H0 G H) (sL : Same L G) (ow : ∀ (i : Nat) (ds : List PyData) (p : Addr), ρ[i]? = some (SV.l ds) → σ[i]? = some (some (V.ref p)) → H0 p = none) (g : Go mb G H G' H') (b : Bag mb f' H') : At K mb js pn L G0 H0 ρ f' σ H' :=
  ⟨G', S.go g b, g0.trans g, sL.trans g.gg, ow⟩
theorem sim_if {tt : TT} {dt : DT} {t u : TS} {d e : DS} (ht : SimT K mb js pn tt dt) (h1 : SimS K mb js pn t d) (h2 : SimS K mb js pn u e) : SimS K mb js pn (tIfS tt t u) (dIf dt d e) := fun L G0 H0 D E ρ f σ H a q l => by
  obtain ⟨G, S, g0, sL, ow⟩ := a
  refine ht _ H f σ _ _ S.borrow q _ fun c f1 G1 H1 g1 b1 q1 => ?_
  have a1 : At K mb js pn L G0 H0 ρ f1 σ H1 := ⟨G, S.back g1 b1, g0.trans ⟨Same.refl G, (S.gp_same.trans g1.gg).trans g1.gh, g1.hh, g1.hd, fun _ _ h => .inl h, g1.tb⟩, sL, ow⟩
  cases c with
  | true =>
    rw [if_pos rfl] at q1 ⊢
    exact h1 L G0 H0 D E ρ f1 σ H1 a1 q1 l
  | false =>
    rw [if_neg Bool.false_ne_true] at q1 ⊢
    exact h2 L G0 H0 D E ρ f1 σ H1 a1 q1 l
theorem sim_set {i : Nat} {te : TE} {de : DE} (h : Sim K mb js pn te de) (hj : i ≠ js) : SimS K mb js pn (tAsg te (gName i)) (dSet i de) := fun L G0 H0 D E ρ f σ H a q l => by
  obtain ⟨G, S, g0, sL, ow⟩ := a
  refine h G H f σ ρ _ S q _ fun v d f1 G1 H1 g1 b1 r1 q1 => ?_
  obtain ⟨S2, O⟩ := (S.go g1 b1).set1 hj r1
  exact l.nx _ f1 _ H1 ⟨G1, S2, g0.trans g1, sL.trans g1.gg, fun k ds p e1 e2 => ow k ds p (O k ds p e1 e2).1 (O k ds p e1 e2).2⟩ q1
theorem rp_scal {G G' : Hp} {v : V} {d : PyData} (h : isScal d = true) (r : Rp K G v d) : Rp K G' v d := by
  cases r <;> first
    | (cases h; done)
    | exact .non
    | exact .bl _
    | exact .int _
    | exact .str _
theorem sim_setB {i : Nat} {te : TE} {de : DE} (h : Sim K mb js pn te de) (hj : i ≠ js) : SimS K mb js pn (tAsg te (gName i)) (dSetB i de) := fun L G0 H0 D E ρ f σ H a q l => by
  obtain ⟨G, S, g0, sL, ow⟩ := a
  refine h _ H f σ _ _ S.borrow q _ fun v d f1 G1 H1 g1 b1 r1 q1 => ?_
  obtain ⟨S2, O⟩ := (S.back g1 b1).set1 hj (rp_scal q1.1 r1)
  exact l.nx _ f1 _ H1 ⟨G, S2, g0.trans ⟨Same.refl G, (S.gp_same.trans g1.gg).trans g1.gh, g1.hh, g1.hd, fun _ _ h => .inl h, g1.tb⟩, sL, fun k ds p e1 e2 => ow k ds p (O k ds p e1 e2).1 (O k ds p e1 e2).2⟩ q1.2
theorem Stt.setO {G : Hp} (S : Stt K mb js pn G H f σ ρ) {i : Nat} {p : Addr} {vs : List V} {ds : List PyData} (hj : i ≠ js) (gp : G p = none) (hp : H p = some (.lst vs)) (r : RpA K G vs ds) (nb : mb ≠ some p)
    (nw : ∀ (k : Nat) (es : List PyData), ρ[k]? = some (SV.l es) → σ[k]? ≠ some (some (V.ref p))) : Stt K mb js pn G H f (σ.set i (some (.ref p))) (ρ.set i (.l ds)) := by
  have other : ∀ (k : Nat) (s : SV), (ρ.set i (.l ds))[k]? = some s → (k = i ∧ s = .l ds ∧ i < ρ.length) ∨ (i ≠ k ∧ ρ[k]? = some s) := fun k s e => by
    rw [List.getElem?_set] at e
    split at e
    · rename_i h1
      split at e
      · cases e
        exact .inl ⟨h1.symm, rfl, ‹_›⟩
      · cases e
    · exact .inr ⟨‹_›, e⟩
  have same : ∀ (k : Nat), i ≠ k → (σ.set i (some (V.ref p)))[k]? = σ[k]? := fun k h => List.getElem?_set_ne h
  have self : i < ρ.length → (σ.set i (some (V.ref p)))[i]? = some (some (V.ref p)) := fun h => List.getElem?_set_self (by rw [S.ln]; exact h)
  refine { tk := S.tk, gh := S.gh, gb := S.gb, bi := S.bi, bj := fun b e => by rw [same js hj]; exact S.bj b e, pj := fun v e => by rw [same js hj]; exact S.pj v e, ln := by rw [List.length_set, List.length_set]; exact S.ln, ft := ?_, ow := ?_, sp := ?_, gf := fun k P e => (by
    rcases other k _ e with ⟨_, z, _⟩ | ⟨n, e1⟩
    · cases z
    · rw [same k n]
      exact S.gf k P e1) }
  · intro k x e
    rcases other k _ e with ⟨_, z, _⟩ | ⟨n, e1⟩
    · cases z
    · rw [same k n]
      exact S.ft k x e1
  · intro k es e
    rcases other k _ e with ⟨h1, z, h2⟩ | ⟨n, e1⟩
    · cases z
      rw [h1]
      exact ⟨p, vs, self h2, gp, hp, r, nb⟩
    · rw [same k n]
      exact S.ow k es e1
  · intro a b xs ys q e1 e2 k1 k2
    rcases other a _ e1 with ⟨h1, z1, l1⟩ | ⟨n1, e1⟩
    · rcases other b _ e2 with ⟨h2, z2, l2⟩ | ⟨n2, e2⟩
      · rw [h1, h2]
      · rw [h1, self l1] at k1
        cases k1
        rw [same b n2] at k2
        exact absurd k2 (nw b ys e2)
    · rcases other b _ e2 with ⟨h2, z2, l2⟩ | ⟨n2, e2⟩
      · rw [h2, self l2] at k2
        cases k2
        rw [same a n1] at k1
        exact absurd k1 (nw a xs e1)
      · rw [same a n1] at k1
        rw [same b n2] at k2
        exact S.sp a b xs ys q e1 e2 k1 k2
/-- a new list goes to a name -/
theorem At.newL {G G1 H1 : Hp} {f1 i : Nat} {p : Addr} {vs : List V} {ds : List PyData} (S : Stt K mb js pn G H f σ ρ) (g0 : Go mb G0 H0 G H) (sL : Same L G) (ow : ∀ (i : Nat) (ds : List PyData) (p : Addr), ρ[i]? = some (SV.l ds) → σ[i]? = some (some (V.ref p)) → H0 p = none)
    (g1 : Go mb G H G1 H1) (b1 : Bag mb f1 H1) (h0 : H p = none) (gp : G1 p = none) (hp : H1 p = some (.lst vs)) (r : RpA K G1 vs ds) (hj : i ≠ js) : At K mb js pn L G0 H0 (ρ.set i (.l ds)) f1 (σ.set i (some (.ref p))) H1 := by
  refine ⟨G1, (S.go g1 b1).setO hj gp hp r (bag_ne S.bi h0) (fun k es e1 e2 => ?_), g0.trans g1, sL.trans g1.gg, fun k es q e1 e2 => ?_⟩
  · obtain ⟨q, us, h1, h2, h3, _⟩ := S.ow k es e1
    rw [e2] at h1
    cases h1
    rw [h0] at h3
    cases h3
  · rw [List.getElem?_set] at e1 e2
    split at e1
    · rename_i hk
      rw [if_pos hk] at e2
      split at e2
      · cases e2
        exact none_back g0 h0
      · cases e2
    · rename_i hk
      rw [if_neg hk] at e2
      exact ow k es q e1 e2
theorem sim_setL {i : Nat} {te : TE} {dn : DA} (h : SimN K mb js pn te dn) (hj : i ≠ js) : SimS K mb js pn (tAsg te (gName i)) (dSetL i dn) := fun L G0 H0 D E ρ f σ H a q l => by
  obtain ⟨G, S, g0, sL, ow⟩ := a
  exact h G H f σ ρ _ S q _ fun p vs ds f1 G1 H1 g1 b1 h0 gp hp r q1 => l.nx _ f1 _ H1 (At.newL S g0 sL ow g1 b1 h0 gp hp r hj) q1
theorem sim_tg {tg : Tg} {te : TE} {de : DE} (h : Sim K mb js pn te de) (hj : ∀ i ∈ tg.sl, i ≠ js) : SimS K mb js pn (tAsg te (tgG K tg)) (dTg tg de) := fun L G0 H0 D E ρ f σ H a q l => by
  obtain ⟨G, S, g0, sL, ow⟩ := a
  refine h G H f σ ρ _ S q _ fun v d f1 G1 H1 g1 b1 r1 q1 => ?_
  split at q1
  · rename_i ρ' hρ
    obtain ⟨σ', S', k1, _, O⟩ := (S.go g1 b1).setTg hρ hj r1
    exact k1 _ (l.nx _ f1 _ H1 ⟨G1, S', g0.trans g1, sL.trans g1.gg, fun k ds p e1 e2 => ow k ds p (O k ds p e1 e2).1 (O k ds p e1 e2).2⟩ q1)
  · exact q1.elim
theorem sim_app {i : Nat} {te : TE} {de : DE} (h : Sim K mb js pn te de) : SimS K mb js pn (tDrop (tBM K "list" rAppend (tVar i) (tCons te tNil))) (dApp i de) := fun L G0 H0 D E ρ f σ H a q l => by
  obtain ⟨G, S, g0, sL, ow⟩ := a
  unfold dApp at q
  split at q
  · rename_i ds hi
    obtain ⟨p, vs, h1, h2, h3, h4, h5⟩ := S.ow i ds hi
    refine ⟨.ref p, h1, .inl ⟨rfl, _, SqL.of h3⟩, h G H f σ ρ _ S q _ fun v d f1 G1 H1 g1 b1 r1 q1 => ?_⟩
    obtain ⟨hz, q1⟩ := q1
    have hp1 : H1 p = some (.lst vs) := g1.hh p _ h5 trivial h3
    have gp1 : G1 p = none := g1.none_keep h2 (by rw [h3]; exact Option.some_ne_none _)
    have S1 := S.go g1 b1
    have r4 := h4.mono g1.gg
    have p0 : H0 p = none := ow i ds p hi h1
    refine ⟨p, vs, v, rfl, rfl, hp1, by rw [r4.len, sizeLine_eq]; exact hz, l.nx _ f1 _ _ ⟨G1, ?_, (g0.trans g1).mut p0 gp1 (.inr ⟨_, hp1⟩), sL.trans g1.gg, fun k es q e1 e2 => ?_⟩ q1⟩
    · have other : ∀ (k : Nat) (s : SV), (ρ.set i (.l (ds ++ [d])))[k]? = some s → (k = i ∧ s = .l (ds ++ [d])) ∨ (i ≠ k ∧ ρ[k]? = some s) := fun k s e => by
        rw [List.getElem?_set] at e
        split at e
        · rename_i hk
          split at e
          · cases e
            exact .inl ⟨hk.symm, rfl⟩
          · cases e
        · exact .inr ⟨‹_›, e⟩
      have keep : ∀ a o, H1 a = some o → a ≠ p → upd H1 p (.lst (vs ++ [v])) a = some o := fun a o e n => by
        rw [upd_ne n]
        exact e
      refine { tk := fun P h => ⟨tabS_mut (S1.tk P h).1 (.inr ⟨_, hp1⟩), (S1.tk P h).2⟩, gh := fun a o e => keep a o (S1.gh a o e) (ne_of_none e gp1), gb := S1.gb, bi := b1.upd h5, bj := S1.bj, pj := fun v e => (by
          obtain ⟨m1, m2, a, ns, m3, m4, m5⟩ := S1.pj v e
          refine ⟨m1, m2, a, ns, m3, m4, ?_⟩
          exact m5.mono (Same.refl _) fun o hx => keep _ _ hx (fun z => by rw [z, hp1] at hx; cases hx)), ln := by rw [List.length_set]; exact S1.ln, ft := ?_, ow := ?_, sp := ?_, gf := fun k P e => (by
          rcases other k _ e with ⟨_, z⟩ | ⟨n, e1⟩
          · cases z
          · exact S1.gf k P e1) }
      · intro k x e
        rcases other k _ e with ⟨_, z⟩ | ⟨n, e1⟩
        · cases z
        · exact S1.ft k x e1
      · intro k es e
        rcases other k _ e with ⟨k1, z⟩ | ⟨n, e1⟩
        · cases z
          rw [k1]
          exact ⟨p, _, h1, gp1, upd_same, r4.app (.one r1), h5⟩
        · obtain ⟨q', us, m1, m2, m3, m4, m5⟩ := S1.ow k es e1
          refine ⟨q', us, m1, m2, keep _ _ m3 (fun z => ?_), m4, m5⟩
          subst z
          exact n (S1.sp i k ds es q' hi e1 h1 m1)
      · intro x y xs ys q' e1 e2 m1 m2
        rcases other x _ e1 with ⟨k1, _⟩ | ⟨n1, e1⟩
        · rcases other y _ e2 with ⟨k2, _⟩ | ⟨n2, e2⟩
          · rw [k1, k2]
          · rw [k1] at m1 ⊢
            exact S1.sp i y ds ys q' hi e2 m1 m2
        · rcases other y _ e2 with ⟨k2, _⟩ | ⟨n2, e2⟩
          · rw [k2] at m2 ⊢
            exact S1.sp x i xs ds q' e1 hi m1 m2
          · exact S1.sp x y xs ys q' e1 e2 m1 m2
    · rw [List.getElem?_set] at e1
      split at e1
      · rename_i hk
        rw [← hk, h1] at e2
        cases e2
        exact p0
      · exact ow k es q e1 e2
  · exact q.elim
theorem sim_ret {te : TE} {de : DE} (h : Sim K mb js pn te de) : SimS K mb js pn (tRet te) (dRet de) := fun L G0 H0 D E ρ f σ H a q l => by
  obtain ⟨G, S, g0, sL, ow⟩ := a
  refine h _ H f σ _ _ S.borrow q _ fun v d f1 G1 H1 g1 b1 r1 q1 => l.rt v d f1 G1 H1 ?_ b1 r1 q1
  refine ⟨(g0.gg.trans S.gp_same).trans g1.gg, g1.gh, (g0.trans ⟨Same.refl G, (S.gp_same.trans g1.gg).trans g1.gh, g1.hh, g1.hd, fun _ _ h => .inl h, g1.tb⟩).hh, fun x e => g1.hd x (g0.hd x e), fun x o e => ?_, fun x t => g1.tb x (g0.tb x t)⟩
  rcases g1.nw x o e with z | z
  · unfold Gp at z
    split at z
    · rename_i hx
      obtain ⟨i, ds, e1, e2⟩ := hx
      exact .inr (ow i ds x e1 e2)
    · exact g0.nw x o z
  · exact .inr (none_back g0 z)
theorem sim_retN {te : TE} {dn : DA} (h : SimN K mb js pn te dn) : SimS K mb js pn (tRet te) (dRetN dn) := fun L G0 H0 D E ρ f σ H a q l => by
  obtain ⟨G, S, g0, sL, ow⟩ := a
  exact h _ H f σ _ _ S q _ fun p vs ds f1 G1 H1 g1 b1 h0 gp hp r1 q1 => l.rn p vs ds f1 G1 H1 (g0.trans g1) b1 (none_back g0 h0) gp hp r1 q1
theorem sim_retO {i : Nat} : SimS K mb js pn (tRet (tVar i)) (dRetO i) := fun L G0 H0 D E ρ f σ H a q l => by
  obtain ⟨G, S, g0, sL, ow⟩ := a
  unfold dRetO at q
  split at q
  · rename_i ds hi
    obtain ⟨p, vs, h1, h2, h3, h4, h5⟩ := S.ow i ds hi
    exact ⟨.ref p, h1, l.rn p vs ds f G H g0 S.bi (ow i ds p hi h1) h2 h3 h4 q⟩
  · exact q.elim
theorem sim_expr {te : TE} {de : DE} (h : Sim K mb js pn te de) : SimS K mb js pn (tDrop te) (dExpr de) := fun L G0 H0 D E ρ f σ H a q l => by
  obtain ⟨G, S, g0, sL, ow⟩ := a
  exact h _ H f σ _ _ S.borrow q _ fun v d f1 G1 H1 g1 b1 r1 q1 => l.nx _ f1 _ H1 ⟨G, S.back g1 b1, g0.trans ⟨Same.refl G, (S.gp_same.trans g1.gg).trans g1.gh, g1.hh, g1.hd, fun _ _ h => .inl h, g1.tb⟩, sL, ow⟩ q1
theorem sim_par {i j : Nat} {ta tb : TE} {da db : DE} (ha : Sim K mb js pn ta da) (hb : Sim K mb js pn tb db) (hi : i ≠ js) (hj : j ≠ js) : SimS K mb js pn (tPar i j (tCons ta (tCons tb tNil))) (dPar i j da db) := fun L G0 H0 D E ρ f σ H a q l => by
  obtain ⟨G, S, g0, sL, ow⟩ := a
  refine ha G H f σ ρ _ S q _ fun v d f1 G1 H1 g1 b1 r1 q1 => hb G1 H1 f1 σ ρ _ (S.go g1 b1) q1 _ fun u e f2 G2 H2 g2 b2 r2 q2 => ⟨v, u, rfl, ?_⟩
  obtain ⟨S1, O1⟩ := (S.go (g1.trans g2) b2).set1 hi (r1.mono g2.gg)
  obtain ⟨S2, O2⟩ := S1.set1 hj r2
  exact l.nx _ f2 _ H2 ⟨G2, S2, g0.trans (g1.trans g2), sL.trans (g1.gg.trans g2.gg), fun k ds p e1 e2 => ow k ds p (O1.trans O2 k ds p e1 e2).1 (O1.trans O2 k ds p e1 e2).2⟩ q2
theorem sim_parDL {i j : Nat} {ta tb : TE} {da : DE} {db : DA} (ha : Sim K mb js pn ta da) (hb : SimN K mb js pn tb db) (hi : i ≠ js) (hj : j ≠ js) : SimS K mb js pn (tPar i j (tCons ta (tCons tb tNil))) (dParDL i j da db) := fun L G0 H0 D E ρ f σ H a q l => by
  obtain ⟨G, S, g0, sL, ow⟩ := a
  refine ha G H f σ ρ _ S q _ fun v d f1 G1 H1 g1 b1 r1 q1 => hb G1 H1 f1 σ ρ _ (S.go g1 b1) q1 _ fun p us es f2 G2 H2 g2 b2 h0 gp hp r2 q2 => ⟨v, .ref p, rfl, ?_⟩
  obtain ⟨S1, O1⟩ := (S.go g1 b1).set1 hi r1
  exact l.nx _ f2 _ H2 (At.newL S1 (g0.trans g1) (sL.trans g1.gg) (fun k ds p e1 e2 => ow k ds p (O1 k ds p e1 e2).1 (O1 k ds p e1 e2).2) g2 b2 h0 gp hp r2 hj) q2
theorem Stt.newO {G G1 H1 : Hp} {f1 i : Nat} {p : Addr} {us : List V} {es : List PyData} (S : Stt K mb js pn G H f σ ρ) (g1 : Go mb G H G1 H1) (b1 : Bag mb f1 H1) (h0 : H p = none) (gp : G1 p = none) (hp : H1 p = some (.lst us)) (r1 : RpA K G1 us es) (hi : i ≠ js) :
    Stt K mb js pn G1 H1 f1 (σ.set i (some (.ref p))) (ρ.set i (.l es)) := (S.go g1 b1).setO hi gp hp r1 (bag_ne S.bi h0) fun k xs e1 e2 => by
    obtain ⟨q', us', m1, m2, m3, _⟩ := S.ow k xs e1
    rw [e2] at m1
    cases m1
    rw [h0] at m3
    cases m3
theorem At.newOw {G G1 H1 : Hp} {i : Nat} {p : Addr} {es : List PyData} (g0 : Go mb G0 H0 G H) (ow : ∀ (i : Nat) (ds : List PyData) (p : Addr), ρ[i]? = some (SV.l ds) → σ[i]? = some (some (V.ref p)) → H0 p = none) (h0 : H p = none) :
    ∀ (k : Nat) (ds : List PyData) (q : Addr), (ρ.set i (.l es))[k]? = some (SV.l ds) → (σ.set i (some (.ref p)))[k]? = some (some (V.ref q)) → H0 q = none := fun k ds q e1 e2 => by
  rw [List.getElem?_set] at e1 e2
  split at e1
  · rename_i hk
    rw [if_pos hk] at e2
    split at e2
    · cases e2
      exact none_back g0 h0
    · cases e2
  · rename_i hk
    rw [if_neg hk] at e2
    exact ow k ds q e1 e2
theorem sim_parLD {i j : Nat} {ta tb : TE} {da : DA} {db : DE} (ha : SimN K mb js pn ta da) (hb : Sim K mb js pn tb db) (hi : i ≠ js) (hj : j ≠ js) : SimS K mb js pn (tPar i j (tCons ta (tCons tb tNil))) (dParLD i j da db) := fun L G0 H0 D E ρ f σ H a q l => by
  obtain ⟨G, S, g0, sL, ow⟩ := a
  refine ha G H f σ ρ _ S q _ fun p us es f1 G1 H1 g1 b1 h0 gp hp r1 q1 => hb G1 H1 f1 σ ρ _ (S.go g1 b1) q1 _ fun v d f2 G2 H2 g2 b2 r2 q2 => ⟨.ref p, v, rfl, ?_⟩
  have nb := bag_ne S.bi h0
  have hp2 : H2 p = some (.lst us) := g2.hh p _ nb trivial hp
  have gp2 : G2 p = none := g2.none_keep gp (by rw [hp]; exact Option.some_ne_none _)
  have S3 := S.newO (g1.trans g2) b2 h0 gp2 hp2 (r1.mono g2.gg) hi
  obtain ⟨S4, O4⟩ := S3.set1 hj r2
  exact l.nx _ f2 _ H2 ⟨G2, S4, g0.trans (g1.trans g2), sL.trans (g1.gg.trans g2.gg), fun k ds q' e1 e2 => At.newOw (G := G) (G1 := G1) (H1 := H1) g0 ow h0 k ds q' (O4 k ds q' e1 e2).1 (O4 k ds q' e1 e2).2⟩ q2
theorem sim_parLL {i j : Nat} {ta tb : TE} {da db : DA} (ha : SimN K mb js pn ta da) (hb : SimN K mb js pn tb db) (hi : i ≠ js) (hj : j ≠ js) : SimS K mb js pn (tPar i j (tCons ta (tCons tb tNil))) (dParLL i j da db) := fun L G0 H0 D E ρ f σ H a q l => by
  obtain ⟨G, S, g0, sL, ow⟩ := a
  refine ha G H f σ ρ _ S q _ fun p us es f1 G1 H1 g1 b1 h0 gp hp r1 q1 => ?_
  have S1 := S.newO g1 b1 h0 gp hp r1 hi
  have ow1 := At.newOw (G := G) (G1 := G1) (H1 := H1) (i := i) (es := es) g0 ow h0
  refine hb G1 H1 f1 σ ρ _ (S.go g1 b1) q1 _ fun p2 us2 es2 f2 G2 H2 g2 b2 h02 gp2 hp2 r2 q2 => ⟨.ref p, .ref p2, rfl, ?_⟩
  exact l.nx _ f2 _ H2 (At.newL S1 (g0.trans g1) (sL.trans g1.gg) ow1 g2 b2 h02 gp2 hp2 r2 hj) q2
theorem At.lower {L' : Hp} (a : At K mb js pn L' G0 H0 ρ f σ H) (h : Same L L') : At K mb js pn L G0 H0 ρ f σ H := by
  obtain ⟨G, S, g0, sL, ow⟩ := a
  exact ⟨G, S, g0, h.trans sL, ow⟩
theorem sim_for {tg : Tg} {wi : TI} {di : DI} {tb : TS} {db : DS} (hi : SimI K mb js pn wi di) (hb : SimS K mb js pn tb db) (hj : ∀ i ∈ tg.sl, i ≠ js) : SimS K mb js pn (tFor wi (tgG K tg) tb) (dFor tg di db) := fun L G0 H0 D E ρ f σ H a q l => by
  obtain ⟨G, S, g0, sL, ow⟩ := a
  refine hi G H f σ ρ _ S q _ fun J items f1 G1 H1 g1 b1 it q1 => ?_
  have sL1 : Same L G1 := sL.trans g1.gg
  refine ⟨fun i m σ' H' => m = items.length - i ∧ i ≤ items.length ∧ ∃ ρ' f', At K mb js pn G1 G0 H0 ρ' f' σ' H' ∧ forGo tg db (items.drop i) D ρ' f', ⟨items.length, by omega, Nat.zero_le _, ρ, f1, ⟨G1, S.go g1 b1, g0.trans g1, Same.refl G1, ow⟩, q1⟩, ?_⟩
  rintro i m σ' H' ⟨rfl, hle, ρ', f', a', go⟩
  by_cases hlt : i < items.length
  · right
    obtain ⟨G', S', g', s', ow'⟩ := a'
    refine ⟨it.go i H' hlt (s'.trans S'.gh), fun σ2 H2 => ∃ ρ2 f2, At K mb js pn G1 G0 H0 ρ2 f2 σ2 H2 ∧ forGo tg db (items.drop (i + 1)) D ρ2 f2, fun σ2 H2 h => ⟨items.length - (i + 1), by omega, rfl, hlt, h⟩, fun x H2 y => ?_⟩
    obtain ⟨G2, g2, rx⟩ := it.yl i H' x H2 items[i] (List.getElem?_eq_getElem hlt) (s'.trans S'.gh) y G' s' S'.gh
    rw [List.drop_eq_getElem_cons hlt] at go
    unfold forGo at go
    split at go
    · rename_i ρ2 hρ
      obtain ⟨σ2, S2, k1, _, O⟩ := (S'.go g2.pure (S'.bi.pur g2)).setTg hρ hj rx
      refine k1 _ (hb G1 G0 H0 _ _ ρ2 f' σ2 H2 ⟨G2, S2, g'.trans g2.pure, s'.trans g2.gg, fun k ds p e1 e2 => ow' k ds p (O k ds p e1 e2).1 (O k ds p e1 e2).2⟩ go ?_)
      exact ⟨fun ρ3 f3 σ3 H3 a3 q3 => ⟨ρ3, f3, a3, q3⟩, l.rt, l.rn, fun ρ3 f3 σ3 H3 a3 q3 => l.nx ρ3 f3 σ3 H3 (a3.lower sL1) q3, fun ρ3 f3 σ3 H3 a3 q3 => ⟨ρ3, f3, a3, q3⟩, l.xx⟩
    · exact go.elim
  · left
    have e : i = items.length := by omega
    subst e
    rw [List.drop_length] at go
    obtain ⟨G', S', g', s', ow'⟩ := id a'
    exact ⟨it.st H' (s'.trans S'.gh), l.nx ρ' f' σ' H' (a'.lower sL1) go⟩
theorem sim_forI {tg : Tg} {wi : TI} {di : DI} {tb : TS} {db : DS} (hi : SimI K mb js pn wi di) (hb : SimS K mb js pn tb db) (hj : ∀ i ∈ tg.sl, i ≠ js) : SimS K mb js pn (tFor wi (tgG K tg) tb) (dForI tg di db) := fun L G0 H0 D E ρ f σ H a q l => by
  obtain ⟨G, S, g0, sL, ow⟩ := a
  refine hi G H f σ ρ _ S q _ fun J items f1 G1 H1 g1 b1 it q1 => ?_
  obtain ⟨Inv, i0, step, fin⟩ := q1
  have sL1 : Same L G1 := sL.trans g1.gg
  refine ⟨fun i m σ' H' => m = items.length - i ∧ i ≤ items.length ∧ ∃ ρ' f', At K mb js pn G1 G0 H0 ρ' f' σ' H' ∧ Inv (items.drop i) ρ' f', ⟨items.length, by omega, Nat.zero_le _, ρ, f1, ⟨G1, S.go g1 b1, g0.trans g1, Same.refl G1, ow⟩, i0⟩, ?_⟩
  rintro i m σ' H' ⟨rfl, hle, ρ', f', a', go⟩
  by_cases hlt : i < items.length
  · right
    obtain ⟨G', S', g', s', ow'⟩ := a'
    refine ⟨it.go i H' hlt (s'.trans S'.gh), fun σ2 H2 => ∃ ρ2 f2, At K mb js pn G1 G0 H0 ρ2 f2 σ2 H2 ∧ Inv (items.drop (i + 1)) ρ2 f2, fun σ2 H2 h => ⟨items.length - (i + 1), by omega, rfl, hlt, h⟩, fun x H2 y => ?_⟩
    obtain ⟨G2, g2, rx⟩ := it.yl i H' x H2 items[i] (List.getElem?_eq_getElem hlt) (s'.trans S'.gh) y G' s' S'.gh
    rw [List.drop_eq_getElem_cons hlt] at go
    have go := step _ _ _ _ go
    split at go
    · rename_i ρ2 hρ
      obtain ⟨σ2, S2, k1, _, O⟩ := (S'.go g2.pure (S'.bi.pur g2)).setTg hρ hj rx
      refine k1 _ (hb G1 G0 H0 _ _ ρ2 f' σ2 H2 ⟨G2, S2, g'.trans g2.pure, s'.trans g2.gg, fun k ds p e1 e2 => ow' k ds p (O k ds p e1 e2).1 (O k ds p e1 e2).2⟩ go ?_)
      exact ⟨fun ρ3 f3 σ3 H3 a3 q3 => ⟨ρ3, f3, a3, q3⟩, l.rt, l.rn, fun ρ3 f3 σ3 H3 a3 q3 => l.nx ρ3 f3 σ3 H3 (a3.lower sL1) q3, fun ρ3 f3 σ3 H3 a3 q3 => ⟨ρ3, f3, a3, q3⟩, l.xx⟩
    · exact go.elim
  · left
    have e : i = items.length := by omega
    subst e
    rw [List.drop_length] at go
    obtain ⟨G', S', g', s', ow'⟩ := id a'
    exact ⟨it.st H' (s'.trans S'.gh), l.nx ρ' f' σ' H' (a'.lower sL1) (fin _ _ go)⟩
theorem sim_while {tt : TT} {dt : DT} {tb : TS} {db : DS} (ht : SimT K mb js pn tt dt) (hb : SimS K mb js pn tb db) : SimS K mb js pn (tWhile tt tb) (dWhile dt db) := fun L G0 H0 D E ρ f σ H a q l => by
  obtain ⟨W, ⟨m0, w0⟩, turn⟩ := q
  refine ⟨fun m σ' H' => ∃ ρ' f', At K mb js pn L G0 H0 ρ' f' σ' H' ∧ W m ρ' f', ⟨m0, ρ, f, a, w0⟩, ?_⟩
  rintro m σ' H' ⟨ρ', f', a', w'⟩
  have q' := turn m ρ' f' w'
  obtain ⟨G, S, g0, sL, ow⟩ := a'
  refine ht _ H' f' σ' _ _ S.borrow q' _ fun c f1 G1 H1 g1 b1 q1 => ?_
  have a1 : At K mb js pn L G0 H0 ρ' f1 σ' H1 := ⟨G, S.back g1 b1, g0.trans ⟨Same.refl G, (S.gp_same.trans g1.gg).trans g1.gh, g1.hh, g1.hd, fun _ _ h => .inl h, g1.tb⟩, sL, ow⟩
  cases c with
  | true =>
    rw [if_pos rfl] at q1 ⊢
    refine ⟨fun σ2 H2 => ∃ m', m' < m ∧ ∃ ρ2 f2, At K mb js pn L G0 H0 ρ2 f2 σ2 H2 ∧ W m' ρ2 f2, fun σ2 H2 ⟨m', hm, ρ2, f2, a2, w2⟩ => ⟨m', hm, ρ2, f2, a2, w2⟩, hb L G0 H0 _ _ ρ' f1 σ' H1 a1 q1 ?_⟩
    exact ⟨fun ρ3 f3 σ3 H3 a3 ⟨m', hm, w3⟩ => ⟨m', hm, ρ3, f3, a3, w3⟩, l.rt, l.rn, l.nx, fun ρ3 f3 σ3 H3 a3 ⟨m', hm, w3⟩ => ⟨m', hm, ρ3, f3, a3, w3⟩, l.xx⟩
  | false =>
    rw [if_neg Bool.false_ne_true] at q1 ⊢
    exact l.nx ρ' f1 σ' H1 a1 q1
end
end TC
end Dt
namespace Dt
open PySem PySem.Spec PyProof.Rows L2
variable [TabG]
section TC
variable [TabC]
section
variable {X : Cx} {mb : Option Addr} {js : Nat} {pn : Option V} {st : Stmt} {rest body els : List Stmt} {ts us : TS} {ds es : DS} {e e2 c : Expr} {te te2 : TE} {de de2 : DE} {dn dn2 : DA} {tt : TT} {dt : DT} {pos : Pos} {x : Str} {pos' : Pos} {i : Nat}
theorem xss_nil : XSs X mb js pn [] tNext dNext := ⟨pss_nil, fun L G0 H0 D E ρ f σ H a q l => l.nx ρ f σ H a q⟩
theorem xss_cons (h1 : XS X mb js pn st ts ds) (h2 : XSs X mb js pn rest us es) : XSs X mb js pn (st :: rest) (tSeq ts us) (dSeq ds es) := ⟨pss_cons h1.pe h2.pe, sim_seq h1.sm h2.sm⟩
theorem xss_one (h1 : XS X mb js pn st ts ds) : XSs X mb js pn [st] ts ds := ⟨pss_one h1.pe, h1.sm⟩
theorem xs_never : XS X mb js pn st tNever dNever := ⟨ps_never, fun L G0 H0 D E ρ f σ H a q l => q.elim⟩
theorem xss_never : XSs X mb js pn rest tNever dNever := ⟨pss_never, fun L G0 H0 D E ρ f σ H a q l => q.elim⟩
theorem xs_pass : XS X mb js pn (.Pass pos) tNext dNext := ⟨ps_pass, fun L G0 H0 D E ρ f σ H a q l => l.nx ρ f σ H a q⟩
theorem xs_doc {s j} : XS X mb js pn (.Expr (.Constant (.str s) j pos) pos') tNext dNext := ⟨ps_doc, fun L G0 H0 D E ρ f σ H a q l => l.nx ρ f σ H a q⟩
theorem xs_break : XS X mb js pn (.Break pos) tBreak dBreak := ⟨ps_break, fun L G0 H0 D E ρ f σ H a q l => l.bk ρ f σ H a q⟩
theorem xs_cont : XS X mb js pn (.Continue pos) tCont dCont := ⟨ps_continue, fun L G0 H0 D E ρ f σ H a q l => l.ct ρ f σ H a q⟩
theorem xs_set (i : Nat) {x : Str} (hN : X.N.Nodup) (he : XE X mb js pn e te de) (hi : X.N[i]? = some x := by rfl) (hx : Loc X.env.scope x := by first | exact Or.inl rfl | exact Or.inr rfl) (hj : i ≠ js := by decide) (hs : swapsWith e (some (.Name x pos')) pos.line X.env = pure false := by rfl) (hf : X.fn x = true ∨ X.env.scope.names.lookup x = some .local := by first | exact .inl rfl | exact .inr rfl | assumption) :
    XS X mb js pn (.Assign [.Name x pos'] e pos) (tAsg te (gName i)) (dSet i de) := ⟨ps_set hN hi hx he.pe hs hf, sim_set he.sm hj⟩
theorem xs_setB (i : Nat) {x : Str} (hN : X.N.Nodup) (he : XE X mb js pn e te de) (hi : X.N[i]? = some x := by rfl) (hx : Loc X.env.scope x := by first | exact Or.inl rfl | exact Or.inr rfl) (hj : i ≠ js := by decide) (hs : swapsWith e (some (.Name x pos')) pos.line X.env = pure false := by rfl) (hf : X.fn x = true ∨ X.env.scope.names.lookup x = some .local := by first | exact .inl rfl | exact .inr rfl | assumption) :
    XS X mb js pn (.Assign [.Name x pos'] e pos) (tAsg te (gName i)) (dSetB i de) := ⟨ps_set hN hi hx he.pe hs hf, sim_setB he.sm hj⟩
theorem xs_setL (i : Nat) {x : Str} (hN : X.N.Nodup) (he : XN X mb js pn e te dn) (hi : X.N[i]? = some x := by rfl) (hx : Loc X.env.scope x := by first | exact Or.inl rfl | exact Or.inr rfl) (hj : i ≠ js := by decide) (hs : swapsWith e (some (.Name x pos')) pos.line X.env = pure false := by rfl) (hf : X.fn x = true ∨ X.env.scope.names.lookup x = some .local := by first | exact .inl rfl | exact .inr rfl | assumption) :
    XS X mb js pn (.Assign [.Name x pos'] e pos) (tAsg te (gName i)) (dSetL i dn) := ⟨ps_set hN hi hx he.pe hs hf, sim_setL he.sm hj⟩
/-- name = [..] on one line -/
theorem lc_set {y : Str} {py : Pos} {elt tge iter : Expr} {ifs : List Expr} {scope : Scope} {own : List (Str × Nat)} {spos : Pos} {wi : TI} {di : DI} {tg : Tg} {dt : DT} {de : DE} (i : Nat) (hN : X.N.Nodup) (hi : XI X mb js pn tge iter wi di) (ok : BlkOk X.N X.env.scope scope own)
    (hg : ∀ (s : Shared) (H : Hp) (C : Addr) (cl : List (Str × Addr)) (fp : List Addr), PG (X.blk s H scope (compEnvC scope cl C X.env) fp) tge (tgG X.K tg))
    (ht : ∀ (s : Shared) (H : Hp) (C : Addr) (cl : List (Str × Addr)) (fp : List Addr), ∃ tt, XTs (X.blk s H scope (compEnvC scope cl C X.env) fp) mb js pn ifs tt dt)
    (he : ∀ (s : Shared) (H : Hp) (C : Addr) (cl : List (Str × Addr)) (fp : List Addr), ∃ te, XE (X.blk s H scope (compEnvC scope cl C X.env) fp) mb js pn elt te de)
    (hsw : swapsWith (.ListComp elt [⟨tge, iter, ifs, 0⟩] scope pos) (some (.Name y py)) spos.line X.env = pure true) (hy : X.N[i]? = some y := by rfl) (hyl : X.env.scope.names.lookup y = some .local := by rfl)
    (hc : X.calm = true := by rfl) (hj : ∀ i ∈ own.map (·.2), i ≠ js := by decide) (hsl : ∀ i ∈ tg.sl, i ∈ own.map (·.2) := by decide) (hs : ∀ x, foldedSetIterable iter X.env x = pure x := by intro _; rfl) :
    PS X (.Assign [.Name y py] (.ListComp elt [⟨tge, iter, ifs, 0⟩] scope pos) spos) (tAsg (tLc wi (tgG X.K tg) (ttOf X.K mb js pn dt) (teOf X.K mb js pn de) (own.map (·.2))) (gName i)) ∧ SimN X.K mb js pn (tLc wi (tgG X.K tg) (ttOf X.K mb js pn dt) (teOf X.K mb js pn de) (own.map (·.2))) (dLc di tg dt de (own.map (·.2))) :=
  ⟨ps_setLc hc hN hy hyl hsw hi.pe ok hg (fun s H C cl fp => XTs.can (ht s H C cl fp)) (fun s H C cl fp => XE.can (he s H C cl fp)) hs, lc_sim hi.sm sim_ttOf sim_teOf hj hsl⟩
theorem simN_e {K : PySem.W.Frag} (h : SimN K mb js pn te dn) : Sim K mb js pn te (dL dn) := fun G H f σ ρ P S q Q k => h G H f σ ρ _ S q Q fun p vs ds f' G' H' g bg hp gp hv r pd =>
  k (.ref p) (.list ds) f' (upd G' p (.lst vs)) H' (g.add hp gp hv) bg (.lst upd_same (r.mono (same_new gp))) pd
/-- the comprehension is one's own | a datum -/
theorem xs_lcL {i : Nat} (h : PS X st (tAsg te (gName i)) ∧ SimN X.K mb js pn te dn) (hj : i ≠ js := by decide) : XS X mb js pn st (tAsg te (gName i)) (dSetL i dn) := ⟨h.1, sim_setL h.2 hj⟩
theorem xs_lc {i : Nat} (h : PS X st (tAsg te (gName i)) ∧ SimN X.K mb js pn te dn) (hj : i ≠ js := by decide) : XS X mb js pn st (tAsg te (gName i)) (dSet i (dL dn)) := ⟨h.1, sim_set (simN_e h.2) hj⟩
theorem xs_tg {els : List Expr} {kk : Nat} {tp : Pos} {tg : Tg} (he : XE X mb js pn e te de) (hg : PG X (.Tuple els kk tp) (tgG X.K tg)) (hj : ∀ i ∈ tg.sl, i ≠ js := by decide) (hs : swapsWithSole [.Tuple els kk tp] e pos.line X.env = pure false := by rfl) (hw : swappedStores [.Tuple els kk tp] e X.env = pure none := by rfl) :
    XS X mb js pn (.Assign [.Tuple els kk tp] e pos) (tAsg te (tgG X.K tg)) (dTg tg de) := ⟨ps_asg he.pe hg hs hw, sim_tg he.sm hj⟩
theorem xs_expr (he : XE X mb js pn e te de) (hs : swapsWith e none pos.line X.env = pure false := by rfl) : XS X mb js pn (.Expr e pos) (tDrop te) (dExpr de) := ⟨ps_expr he.pe hs, sim_expr he.sm⟩
theorem xs_ret (he : XE X mb js pn e te de) : XS X mb js pn (.Return (some e) pos) (tRet te) (dRet de) := ⟨ps_ret he.pe, sim_ret he.sm⟩
theorem xs_retN (he : XN X mb js pn e te dn) : XS X mb js pn (.Return (some e) pos) (tRet te) (dRetN dn) := ⟨ps_ret he.pe, sim_retN he.sm⟩
theorem xs_retO (i : Nat) {x : Str} {px : Pos} (hN : X.N[i]? = some x := by rfl) (hv : Vis X.env.scope x := by first | exact Or.inl rfl | exact Or.inr (Or.inl rfl) | exact Or.inr (Or.inr rfl)) (hd : (x == ("__debug__" : Str)) = false := by decide)
    (hcd : (x == ("__classdict__" : Str)) = false := by decide) : XS X mb js pn (.Return (some (.Name x px)) pos) (tRet (tVar i)) (dRetO i) := ⟨ps_ret (pe_var hN hv hd hcd), sim_retO⟩
theorem xs_if (hc : XT X mb js pn c tt dt) (h1 : XSs X mb js pn body ts ds) (h2 : XSs X mb js pn els us es) : XS X mb js pn (.If c body els pos) (tIfS tt ts us) (dIf dt ds es) := ⟨ps_if hc.pe h1.pe h2.pe, sim_if hc.sm h1.sm h2.sm⟩
theorem xs_for {tge iter : Expr} {tg : Tg} {wi : TI} {di : DI} (hp : PassesOwn (model X.prog X.w) X.A X.env X.xe) (hi : XI X mb js pn tge iter wi di) (hg : PG X tge (tgG X.K tg)) (hb : XSs X mb js pn body ts ds) (hc : X.calm = true := by rfl) (hj : ∀ i ∈ tg.sl, i ≠ js := by decide)
    (hs : ∀ x, foldedSetIterable iter X.env x = pure x := by intro _; rfl) : XS X mb js pn (.For tge iter body [] pos) (tFor wi (tgG X.K tg) ts) (dFor tg di ds) := ⟨ps_for hp hc hi.pe hg hb.pe hs, sim_for hi.sm hb.sm hj⟩
theorem xs_forI {tge iter : Expr} {tg : Tg} {wi : TI} {di : DI} (hp : PassesOwn (model X.prog X.w) X.A X.env X.xe) (hi : XI X mb js pn tge iter wi di) (hg : PG X tge (tgG X.K tg)) (hb : XSs X mb js pn body ts ds) (hc : X.calm = true := by rfl) (hj : ∀ i ∈ tg.sl, i ≠ js := by decide)
    (hs : ∀ x, foldedSetIterable iter X.env x = pure x := by intro _; rfl) : XS X mb js pn (.For tge iter body [] pos) (tFor wi (tgG X.K tg) ts) (dForI tg di ds) := ⟨ps_for hp hc hi.pe hg hb.pe hs, sim_forI hi.sm hb.sm hj⟩
theorem xs_while (hp : PassesOwn (model X.prog X.w) X.A X.env X.xe) (hc : XT X mb js pn c tt dt) (hb : XSs X mb js pn body ts ds) : XS X mb js pn (.While c body [] pos) (tWhile tt ts) (dWhile dt ds) := ⟨ps_while hp hc.pe hb.pe, sim_while hc.sm hb.sm⟩
theorem xs_app (i : Nat) (he : XE X mb js pn e te de) (pe : PE X e te → PE X c (tBM X.K "list" rAppend (tVar i) (tCons te tNil))) (hs : swapsWith c none pos.line X.env = pure false := by rfl) :
    XS X mb js pn (.Expr c pos) (tDrop (tBM X.K "list" rAppend (tVar i) (tCons te tNil))) (dApp i de) := ⟨ps_expr (pe he.pe) hs, sim_app he.sm⟩
section
variable {j : Nat} {y : Str} {px py pt : Pos} {kt k2 : Nat} {pt2 : Pos}
theorem ps_two (i j : Nat) (hN : X.N.Nodup) (ha : PE X e te) (hb : PE X e2 te2) (hc : X.calm = true := by rfl) (hi : X.N[i]? = some x := by rfl) (hj : X.N[j]? = some y := by rfl) (hij : i ≠ j := by decide) (hx : X.env.scope.names.lookup x = some .local := by rfl) (hy : X.env.scope.names.lookup y = some .local := by rfl)
    (hw : swappedStores [.Tuple [.Name x px, .Name y py] kt pt] (.Tuple [e, e2] k2 pt2) X.env = pure (some [x, y]) := by rfl) (hs : swapsWithSole [.Tuple [.Name x px, .Name y py] kt pt] (.Tuple [e, e2] k2 pt2) pos.line X.env = pure false := by rfl)
    (h1 : starEach (e :: [e2]) X.env = (false, eval e X.env) :: starEach [e2] X.env := by rfl) (h2 : starEach (e2 :: []) X.env = (false, eval e2 X.env) :: starEach [] X.env := by rfl) :
    PS X (.Assign [.Tuple [.Name x px, .Name y py] kt pt] (.Tuple [e, e2] k2 pt2) pos) (tPar i j (tCons te (tCons te2 tNil))) := ps_par hc hN hi hj hij hx hy (pa_cons ha (pa_cons hb pa_nil h2) h1) hw hs
theorem xs_par {i j : Nat} (he : XE X mb js pn e te de) (he2 : XE X mb js pn e2 te2 de2) (pe : PE X e te → PE X e2 te2 → PS X st (tPar i j (tCons te (tCons te2 tNil)))) (hi : i ≠ js := by decide) (hj : j ≠ js := by decide) : XS X mb js pn st (tPar i j (tCons te (tCons te2 tNil))) (dPar i j de de2) := ⟨pe he.pe he2.pe, sim_par he.sm he2.sm hi hj⟩
theorem xs_parDL {i j : Nat} (he : XE X mb js pn e te de) (he2 : XN X mb js pn e2 te2 dn2) (pe : PE X e te → PE X e2 te2 → PS X st (tPar i j (tCons te (tCons te2 tNil)))) (hi : i ≠ js := by decide) (hj : j ≠ js := by decide) : XS X mb js pn st (tPar i j (tCons te (tCons te2 tNil))) (dParDL i j de dn2) := ⟨pe he.pe he2.pe, sim_parDL he.sm he2.sm hi hj⟩
theorem xs_parLD {i j : Nat} (he : XN X mb js pn e te dn) (he2 : XE X mb js pn e2 te2 de2) (pe : PE X e te → PE X e2 te2 → PS X st (tPar i j (tCons te (tCons te2 tNil)))) (hi : i ≠ js := by decide) (hj : j ≠ js := by decide) : XS X mb js pn st (tPar i j (tCons te (tCons te2 tNil))) (dParLD i j dn de2) := ⟨pe he.pe he2.pe, sim_parLD he.sm he2.sm hi hj⟩
theorem xs_parLL {i j : Nat} (he : XN X mb js pn e te dn) (he2 : XN X mb js pn e2 te2 dn2) (pe : PE X e te → PE X e2 te2 → PS X st (tPar i j (tCons te (tCons te2 tNil)))) (hi : i ≠ js := by decide) (hj : j ≠ js := by decide) : XS X mb js pn st (tPar i j (tCons te (tCons te2 tNil))) (dParLL i j dn dn2) := ⟨pe he.pe he2.pe, sim_parLL he.sm he2.sm hi hj⟩
end
end

def rho0 (N : List Str) (ds : List PyData) : Rho := ds.map SV.d ++ List.replicate (N.length - ds.length) .u
end TC
section
variable {P : Program} {w : World} {K : PySem.W.Frag} {mg : Str → Option Value} {base : Heap} {x : Str} {st : Stmt} {f : Addr} {fd : FuncData} {N ps : List Str} {k : Nat}
theorem start_stt {G H : Hp} {vs : List V} {ds : List PyData} (gh : Same G H) (r : RpA K G vs ds) (hl : ds.length ≤ N.length) : Stt K none 1000000 none G H 0 (L2.start N vs) (rho0 N ds) := by
  have hlen := r.len
  have no : ∀ (i : Nat) (es : List PyData), (rho0 N ds)[i]? ≠ some (SV.l es) := fun i es e => by
    unfold rho0 at e
    rw [List.getElem?_append] at e
    split at e
    · rw [List.getElem?_map] at e
      cases q : ds[i]? with
      | none =>
        rw [q] at e
        cases e
      | some d =>
        rw [q] at e
        cases e
    · rw [List.getElem?_replicate] at e
      split at e <;> cases e
  have noG : ∀ (i : Nat) (P : Hp → V → Prop), (rho0 N ds)[i]? ≠ some (SV.g P) := fun i P e => by
    unfold rho0 at e
    rw [List.getElem?_append] at e
    split at e
    · rw [List.getElem?_map] at e
      cases q : ds[i]? with
      | none =>
        rw [q] at e
        cases e
      | some d =>
        rw [q] at e
        cases e
    · rw [List.getElem?_replicate] at e
      split at e <;> cases e
  refine { tk := tabs_nil, gf := fun i P e => absurd e (noG i P), gh := gh, gb := fun _ e => (by cases e), bi := Bag.no, bj := fun _ e => (by cases e), pj := fun _ e => (by cases e), ln := ?_, ft := ?_, ow := fun i es e => absurd e (no i es), sp := fun i j es fs p e => absurd e (no i es) }
  · unfold L2.start rho0
    rw [List.length_append, List.length_append, List.length_map, List.length_map, List.length_replicate, List.length_replicate, hlen]
  · intro i d e
    unfold rho0 at e
    rw [List.getElem?_append, List.length_map] at e
    split at e
    · rename_i h
      rw [List.getElem?_map] at e
      cases q : ds[i]? with
      | none =>
        rw [q] at e
        cases e
      | some y =>
        rw [q] at e
        cases e
        obtain ⟨v, h1, h2⟩ := r.get q
        refine ⟨v, ?_, h2⟩
        unfold L2.start
        rw [List.getElem?_append_left (by rw [List.length_map]; omega), List.getElem?_map, h1]
        rfl
    · rw [List.getElem?_replicate] at e
      split at e <;> cases e
/-- a pure def -/
theorem fnP_mk {wd : RCD} (F : FunD K x x (defArgs st) (defBody st) (defScope st) [] [] f fd) (sc : FnScope N ps (defScope st)) (hm : mg x = some (.ref f)) (hb : Binds K fd ps []) (hw : ∀ ds P, wd ds P → ds.length = ps.length) (hN : ps.length ≤ N.length)
    (body : ∀ (cdv : Value) (A : Around) (outer : List Env) (s : Shared) (H : Hp) (E : XK), Room k (A.deeper (envOfC x (defScope st) s.heap.objs.size f cdv)) →
      ∃ ts ds, XSs (cxOf CX0 P w K mg base N x (defScope st) f cdv A outer s H E).nox none 1000000 none (defBody st) ts ds ∧ ∀ args Q, wd args Q → ds { nx := fun _ _ => Q .none, rt := fun d _ => Q d, rn := fun es _ => Q (.list es) } (rho0 N args) 0) :
    Fn P w K mg base x (k + 1) ps (spP K wd) := by
  refine ⟨f, fd, ?_, hm, F.kp, hb⟩
  refine F.ok sc (fun vs H Q E h => ?_) (fun cdv A outer s H vs Q E hr h => ?_)
  · obtain ⟨G, ds, P', gh, r, q, _⟩ := h
    rw [r.len, hw ds P' q]
  · obtain ⟨G, ds, P', gh, r, q, kk⟩ := h
    obtain ⟨ts, dd, X1, rd⟩ := body cdv A outer s H E hr
    have hl := hw ds P' q
    refine ⟨ts, PSs.nox X1.pe, X1.sm G G H _ _ (rho0 N ds) 0 (L2.start N vs) H ⟨G, start_stt gh r (by omega), Go.refl gh, Same.refl G, fun i es p e => ?_⟩ (rd ds P' q) ?_⟩
    · obtain ⟨_, _, _, h2, _⟩ := (start_stt (N := N) gh r (by omega)).ow i es e
      unfold rho0 at e
      rw [List.getElem?_append] at e
      split at e
      · rw [List.getElem?_map] at e
        cases q : ds[i]? with
        | none =>
          rw [q] at e
          cases e
        | some d =>
          rw [q] at e
          cases e
      · rw [List.getElem?_replicate] at e
        split at e <;> cases e
    · refine ⟨fun ρ f σ H' a q' => ?_, fun v d f G' H' g b r' q' => kk v d G' H' g r' q', fun p us es f G' H' g b h0 gp hp r' q' => kk (.ref p) (.list es) (upd G' p (.lst us)) H' (g.add h0 gp hp) (.lst upd_same (r'.mono (same_new gp))) q', fun _ _ _ _ _ z => z.elim, fun _ _ _ _ _ z => z.elim, Xt.no⟩
      obtain ⟨G', S', g', _, _⟩ := a
      exact kk .non .none G' H' g' .non q'
/-- a pure def that hands back a new list -/
theorem fnN_mk {wd : List PyData → (List PyData → Prop) → Prop} (F : FunD K x x (defArgs st) (defBody st) (defScope st) [] [] f fd) (sc : FnScope N ps (defScope st)) (hm : mg x = some (.ref f)) (hb : Binds K fd ps []) (hw : ∀ ds P, wd ds P → ds.length = ps.length) (hN : ps.length ≤ N.length)
    (body : ∀ (cdv : Value) (A : Around) (outer : List Env) (s : Shared) (H : Hp) (E : XK), Room k (A.deeper (envOfC x (defScope st) s.heap.objs.size f cdv)) →
      ∃ ts ds, XSs (cxOf CX0 P w K mg base N x (defScope st) f cdv A outer s H E).nox none 1000000 none (defBody st) ts ds ∧ ∀ args Q, wd args Q → ds { nx := fun _ _ => False, rt := fun _ _ => False, rn := fun es _ => Q es } (rho0 N args) 0) :
    Fn P w K mg base x (k + 1) ps (spN K wd) := by
  refine ⟨f, fd, ?_, hm, F.kp, hb⟩
  refine F.ok sc (fun vs H Q E h => ?_) (fun cdv A outer s H vs Q E hr h => ?_)
  · obtain ⟨G, ds, P', gh, r, q, _⟩ := h
    rw [r.len, hw ds P' q]
  · obtain ⟨G, ds, P', gh, r, q, kk⟩ := h
    obtain ⟨ts, dd, X1, rd⟩ := body cdv A outer s H E hr
    have hl := hw ds P' q
    have S0 := start_stt (N := N) gh r (by omega)
    refine ⟨ts, PSs.nox X1.pe, X1.sm G G H _ _ (rho0 N ds) 0 (L2.start N vs) H ⟨G, S0, Go.refl gh, Same.refl G, fun i es p e => ?_⟩ (rd ds P' q) ?_⟩
    · unfold rho0 at e
      rw [List.getElem?_append] at e
      split at e
      · rw [List.getElem?_map] at e
        cases q : ds[i]? with
        | none =>
          rw [q] at e
          cases e
        | some d =>
          rw [q] at e
          cases e
      · rw [List.getElem?_replicate] at e
        split at e <;> cases e
    · exact ⟨fun _ _ _ _ _ z => z.elim, fun _ _ _ _ _ _ _ _ z => z.elim, fun p us es f G' H' g b h0 gp hp r' q' => kk p us es G' H' g h0 gp hp r' q', fun _ _ _ _ _ z => z.elim, fun _ _ _ _ _ z => z.elim, Xt.no⟩
theorem Fn.toP {wd : List PyData → (List PyData → Prop) → Prop} (F : Fn P w K mg base x k ps (spN K wd)) : Fn P w K mg base x k ps (spP K fun ds Q => wd ds fun es => Q (.list es)) := by
  obtain ⟨f, fd, h, r⟩ := F.ex
  refine ⟨f, fd, h.imp fun vs H Q E q => ?_, r⟩
  obtain ⟨G, ds, P', gh, r, q, kk⟩ := q
  exact ⟨G, ds, _, gh, r, q, fun p us es G' H' g h0 gp hp r' q' => kk (.ref p) (.list es) (upd G' p (.lst us)) H' (g.add h0 gp hp) (.lst upd_same (r'.mono (same_new gp))) q'⟩
/-- a def whose first argument is the bag -/
theorem fnB_mk {wd : List PyData → Nat → (PyData → Nat → Prop) → Prop} {y : Str} (F : FunD K x x (defArgs st) (defBody st) (defScope st) [] [] f fd) (sc : FnScope N (y :: ps) (defScope st)) (hm : mg x = some (.ref f)) (hb : Binds K fd (y :: ps) []) (hw : ∀ ds f P, wd ds f P → ds.length = ps.length) (hN : ps.length + 1 ≤ N.length)
    (body : ∀ (b : Addr) (cdv : Value) (A : Around) (outer : List Env) (s : Shared) (H : Hp) (E : XK), Room k (A.deeper (envOfC x (defScope st) s.heap.objs.size f cdv)) →
      ∃ ts ds, XSs (cxOf CX0 P w K mg base N x (defScope st) f cdv A outer s H E).nox (some b) 0 none (defBody st) ts ds ∧ ∀ args fu Q, wd args fu Q → ds { nx := fun _ f => Q .none f, rt := fun d f => Q d f, rn := fun es f => Q (.list es) f } (.u :: rho0 N.tail args) fu) :
    Fn P w K mg base x (k + 1) (y :: ps) (spB K wd) := by
  refine ⟨f, fd, ?_, hm, F.kp, hb⟩
  refine F.ok sc (fun vs H Q E h => ?_) (fun cdv A outer s H vs Q E hr h => ?_)
  · obtain ⟨b, us, G, fu, ds, P', rfl, gh, gb, bi, r, q, _⟩ := h
    rw [List.length_cons, List.length_cons, r.len, hw ds fu P' q]
  · obtain ⟨b, us, G, fu, ds, P', rfl, gh, gb, bi, r, q, kk⟩ := h
    obtain ⟨ts, dd, X1, rd⟩ := body b cdv A outer s H E hr
    have hl := hw ds fu P' q
    obtain ⟨y', N', rfl⟩ : ∃ y' N', N = y' :: N' := by
      cases N with
      | nil => simp at hN
      | cons y' N' => exact ⟨y', N', rfl⟩
    have hN' : ds.length ≤ N'.length := by
      simp at hN
      omega
    have S0 := start_stt (N := N') gh r hN'
    have es0 : L2.start (y' :: N') (.ref b :: us) = some (.ref b) :: L2.start N' us := by
      unfold L2.start
      simp
    have no : ∀ (i : Nat) (es : List PyData), (rho0 N' ds)[i]? ≠ some (SV.l es) := fun i es e => by
      unfold rho0 at e
      rw [List.getElem?_append] at e
      split at e
      · rw [List.getElem?_map] at e
        cases q : ds[i]? with
        | none =>
          rw [q] at e
          cases e
        | some d =>
          rw [q] at e
          cases e
      · rw [List.getElem?_replicate] at e
        split at e <;> cases e
    have no' : ∀ (i : Nat) (es : List PyData), (SV.u :: rho0 N' ds)[i]? ≠ some (SV.l es) := fun i es e => by
      cases i with
      | zero => cases e
      | succ i => exact no i es e
    have noG : ∀ (i : Nat) (P : Hp → V → Prop), (SV.u :: rho0 N' ds)[i]? ≠ some (SV.g P) := fun i P e => by
      cases i with
      | zero => cases e
      | succ i =>
        have e : (rho0 N' ds)[i]? = some (SV.g P) := e
        unfold rho0 at e
        rw [List.getElem?_append] at e
        split at e
        · rw [List.getElem?_map] at e
          cases q : ds[i]? with
          | none =>
            rw [q] at e
            cases e
          | some d =>
            rw [q] at e
            cases e
        · rw [List.getElem?_replicate] at e
          split at e <;> cases e
    have S : Stt K (some b) 0 none G H fu (L2.start (y' :: N') (.ref b :: us)) (.u :: rho0 N' ds) := by
      rw [es0]
      exact { tk := tabs_nil, gh := gh, gb := fun c e => by cases e; exact gb, bi := bi, bj := fun c e => (by cases e; rfl), pj := fun _ e => (by cases e), ln := by rw [List.length_cons, List.length_cons, S0.ln]
              ft := fun i d e => by
                cases i with
                | zero => cases e
                | succ i => exact S0.ft i d e
              ow := fun i es e => absurd e (no' i es), sp := fun i j es fs p e => absurd e (no' i es), gf := fun i P e => absurd e (noG i P) }
    refine ⟨ts, PSs.nox X1.pe, X1.sm G G H _ _ _ fu _ H ⟨G, S, Go.refl gh, Same.refl G, fun i es p e => absurd e (no' i es)⟩ (rd ds fu P' q) ?_⟩
    refine ⟨fun ρ f σ H' a q' => ?_, fun v d f G' H' g b r' q' => kk v d f G' H' g b r' q', fun p us es f G' H' g b h0 gp hp r' q' => kk (.ref p) (.list es) f (upd G' p (.lst us)) H' (g.add h0 gp hp) b (.lst upd_same (r'.mono (same_new gp))) q', fun _ _ _ _ _ z => z.elim, fun _ _ _ _ _ z => z.elim, Xt.no⟩
    obtain ⟨G', S', g', _, _⟩ := a
    exact kk .non .none f G' H' g' S'.bi .non q'
end
section TC
variable [TabC]
end TC
end Dt
namespace Dt
open PySem PySem.Spec PyProof.Rows L2
variable [TabG]
section TC
variable [TabC]
/-- a bag as it was made -/
def BagAt (b : Addr) (H : Hp) : Prop := ∃ x y t : Int, H b = some (.lst [.int x, .int y, .int t]) ∧ (0 ≤ y ∧ y < 2305843009213693951) ∧ 0 ≤ t ∧ t ≤ 100000
/-- what the def promises that makes the bags -/
def spBags (K : PySem.W.Frag) : Sp := fun vs H Q _ => ∃ (a : Addr) (ns : List Int) (k : Int), vs = [.ref a, .int k] ∧ SqL K H a (ns.map V.int) ∧ ns.length ≤ 63 ∧ (0 ≤ k ∧ k ≤ 63) ∧
  ∀ (p : Addr) (bs : List Addr) (H' : Hp), Same H H' → H p = none → H' p = some (.lst (bs.map V.ref)) → bs.Nodup → (∀ b ∈ bs, b ≠ p ∧ H b = none ∧ BagAt b H') → Q (.ref p) H'
def lawSp (K : PySem.W.Frag) : Sp := fun vs H Q _ => ∃ (a : Addr) (ns : List Int), vs = [.ref a] ∧ SqL K H a (ns.map V.int) ∧ ns.length ≤ 63 ∧ ∀ H', Q (.bl true) H'
def tsOf (K : PySem.W.Frag) (js : Nat) (ds : DS) : TS := fun E σ H => ∃ (b : Addr) (L G0 H0 : Hp) (D : DEnds) (ρ : Rho) (f : Nat), At K (some b) js none L G0 H0 ρ f σ H ∧ ds D ρ f ∧ Lf K (some b) js none L G0 H0 D E
theorem tsOf_pe {X : Cx} {js : Nat} {body : List Stmt} {ds : DS} (h : ∀ b, ∃ ts, XSs X (some b) js none body ts ds) : PSs X body (tsOf X.K js ds) := ⟨fun pins s σ H E I q => by
  obtain ⟨b, L, G0, H0, D, ρ, f, a, q, l⟩ := q
  obtain ⟨ts, h⟩ := h b
  exact h.pe.run pins s σ H E I (h.sm L G0 H0 D E ρ f σ H a q l)⟩
/-- what was known is known -/
def Keep (jb : Nat) (ρ ρ' : Rho) : Prop := ρ'.length = ρ.length ∧ ∀ (i : Nat) (d : PyData), i ≠ jb → ρ[i]? = some (SV.d d) → ρ'[i]? = some (SV.d d)
/-- no list of one's own, nothing of which more is known -/
def NoL (ρ : Rho) : Prop := ∀ (i : Nat) (s : SV), ρ[i]? = some s → (∀ ds, s ≠ .l ds) ∧ ∀ P, s ≠ .g P
def dBags (jb : Nat) (k : Int) (dsb dsr : DS) : DS := fun D ρ _ => (0 ≤ k ∧ k ≤ 63) ∧ jb < ρ.length ∧ NoL ρ ∧
  dsb { nx := fun ρ' _ => Keep jb ρ ρ', rt := fun _ _ => False, ct := fun ρ' _ => Keep jb ρ ρ' } (ρ.set jb .u) 3900000000 ∧ dsr { nx := fun _ _ => False, rt := D.rt, rn := D.rn, wx := D.wx, rs := D.rs } (ρ.set jb .u) 0
section
variable {K : PySem.W.Frag} {G H : Hp} {f : Nat} {σ : L2.St} {ρ ρ' : Rho}
/-- another bag or none: what is known, kept -/
theorem Stt.other {mb mb' : Option Addr} {js js' : Nat} {pn : Option V} {f' : Nat} {σ' : L2.St} (S : Stt K mb js pn G H f σ ρ) (hb : ∀ b, mb' = some b → G b = none) (bi : Bag mb' f' H) (bj : ∀ b, mb' = some b → σ'[js']? = some (some (V.ref b)))
    (ln : σ'.length = ρ'.length) (ft : ∀ (i : Nat) (d : PyData), ρ'[i]? = some (SV.d d) → ρ[i]? = some (SV.d d) ∧ σ'[i]? = σ[i]?) (no : ∀ (i : Nat) (ds : List PyData), ρ'[i]? ≠ some (SV.l ds)) (noG : ∀ (i : Nat) (P : Hp → V → Prop), ρ'[i]? ≠ some (SV.g P)) : Stt K mb' js' none G H f' σ' ρ' where
  gh := S.gh
  gb := hb
  bi := bi
  bj := bj
  pj := fun _ e => nomatch e
  ln := ln
  ft := fun i d e => by
    obtain ⟨h1, h2⟩ := ft i d e
    rw [h2]
    exact S.ft i d h1
  ow := fun i ds e => absurd e (no i ds)
  sp := fun i j ds es p e => absurd e (no i ds)
  gf := fun i P e => absurd e (noG i P)
  tk := S.tk
theorem set_u_get {jb i : Nat} {s : SV} (h : (ρ.set jb .u)[i]? = some s) (hs : s ≠ .u) : i ≠ jb ∧ ρ[i]? = some s := by
  rw [List.getElem?_set] at h
  split at h
  · split at h
    · cases h
      exact absurd rfl hs
    · cases h
  · rename_i n
    exact ⟨fun z => n z.symm, h⟩
theorem sim_bags {js jb : Nat} {v : V} {k : Int} {us : TS} {dsb dsr : DS} (hr : SimS K none 1000000 none us dsr) :
    SimS K none js (some v) (tSeq (tFor (iList K (tCall (spBags K) [] E0 (tCons (tVar js) (tCons (tC (.int k)) tNil)))) (gName jb) (tsOf K jb dsb)) us) (dBags jb k dsb dsr) := fun L G0 H0 D E ρ f σ H a q l => by
  obtain ⟨hk, hjb, noL, qb, qr⟩ := q
  obtain ⟨G, S, g0, sL, ow⟩ := a
  obtain ⟨hv, _, ad, ns, rfl, hns, hscr⟩ := S.pj v rfl
  refine ⟨_, hv, ad, ns, k, rfl, hscr.seq S.gh, hns, hk, fun p bs H1 s1 hp hp1 nd hbs => ⟨p, rfl, ⟨_, SqL.of hp1⟩, ?_⟩⟩
  have noU : ∀ (i : Nat) (ds : List PyData), (ρ.set jb .u)[i]? ≠ some (SV.l ds) := fun i ds e => (noL i _ (set_u_get e (by intro z; cases z)).2).1 ds rfl
  have noG : ∀ (i : Nat) (P : Hp → V → Prop), (ρ.set jb .u)[i]? ≠ some (SV.g P) := fun i P e => (noL i _ (set_u_get e (by intro z; cases z)).2).2 P rfl
  let Pv : Nat → L2.St → Hp → Prop := fun i σ' H' => ∃ G', Stt K none 1000000 none G' H' 0 σ' (ρ.set jb .u) ∧ Go none G0 H0 G' H' ∧ Same L G' ∧ H' p = some (.lst (bs.map V.ref)) ∧ G' p = none ∧ ∀ j b, i ≤ j → bs[j]? = some b → G' b = none ∧ BagAt b H'
  have gp : G p = none := same_none S.gh hp
  have gr : Go none G H G H1 := Go.grow S.gh s1
  have S1 := S.go gr (f' := 0) Bag.no
  refine for_list (K := K) (a := p) (xs := bs.map V.ref) Pv ⟨G, S1.other (fun _ e => nomatch e) Bag.no (fun _ e => nomatch e) (by rw [List.length_set]; exact S.ln) (fun i d e => ⟨(set_u_get e (by intro z; cases z)).2, rfl⟩) noU noG, g0.trans gr, sL, hp1, gp, fun j b _ e => ?_⟩ (fun i σ' H' _ w => ?_) (fun i x σ' H' hx w => ?_) (fun σ' H' w => ?_)
  · obtain ⟨h1, h2, h3⟩ := hbs b (List.mem_of_getElem? e)
    exact ⟨same_none S.gh h2, h3⟩
  · obtain ⟨_, _, _, _, h, _⟩ := w
    exact SqL.of h
  · obtain ⟨G', S', g', sL', hp', gp', bb⟩ := w
    rw [List.getElem?_map] at hx
    cases hb : bs[i]? with
    | none =>
      rw [hb] at hx
      cases hx
    | some b =>
      rw [hb] at hx
      cases hx
      obtain ⟨hbp, hbH, _⟩ := hbs b (List.mem_of_getElem? hb)
      obtain ⟨gb, x0, y0, t0, hB, hy, ht, ht2⟩ := bb i b (Nat.le_refl i) hb
      have hjs : jb < σ'.length := by
        rw [S'.ln, List.length_set]
        exact hjb
      have Sb : Stt K (some b) jb none G' H' 3900000000 (σ'.set jb (some (.ref b))) (ρ.set jb .u) := S'.other (fun c e => by cases e; exact gb)
        (fun c e => by
          cases e
          exact ⟨x0, y0, t0, hB, hy, ht, by omega⟩) (fun c e => by
          cases e
          exact List.getElem?_set_self hjs) (by rw [List.length_set]; exact S'.ln) (fun i d e => ⟨e, List.getElem?_set_ne (fun z => (set_u_get e (by intro z; cases z)).1 z.symm)⟩) noU noG
      refine ⟨b, G', G', H', _, ρ.set jb .u, 3900000000, ⟨G', Sb, Go.refl S'.gh, Same.refl G', fun i ds p e => absurd e (noU i ds)⟩, qb, ?_⟩
      have nxt : ∀ (ρ2 : Rho) (f2 : Nat) (σ2 : L2.St) (H2 : Hp), At K (some b) jb none G' G' H' ρ2 f2 σ2 H2 → Keep jb ρ ρ2 → Pv (i + 1) σ2 H2 := by
        intro ρ2 f2 σ2 H2 a2 kp
        obtain ⟨G2, S2, g2, s2, _⟩ := a2
        have b0 : H0 b = none := none_back g0 hbH
        have keepH : ∀ c o, NT o → H' c = some o → c ≠ b → H2 c = some o := fun c o t e n => g2.hh c o (fun z => n (by cases z; rfl)) t e
        refine ⟨G2, S2.other (fun _ e => nomatch e) Bag.no (fun _ e => nomatch e) (by rw [S2.ln, kp.1, List.length_set]) (fun i d e => ?_) noU noG, ⟨g'.gg.trans g2.gg, g2.gh, fun c o _ t e => keepH c o t (g'.hh c o (fun z => nomatch z) t e) (fun z => by rw [z, b0] at e; cases e), fun c e => g2.hd c (g'.hd c e), fun c o e => ?_, fun c t => g2.tb c (g'.tb c t)⟩, sL'.trans g2.gg, keepH p _ trivial hp' (Ne.symm hbp), g2.none_keep gp' (by rw [hp']; exact Option.some_ne_none _), fun j c hj hc => ?_⟩
        · obtain ⟨h1, h2⟩ := set_u_get e (by intro z; cases z)
          exact ⟨kp.2 i d h1 h2, rfl⟩
        · rcases g2.nw c o e with z | z
          · exact g'.nw c o z
          · exact .inr (none_back g' z)
        · obtain ⟨m1, x1, y1, t1, m2, m3⟩ := bb j c (by omega) hc
          have ncb : c ≠ b := fun z => by
            subst z
            have h1 := (List.getElem?_eq_some_iff.mp hb)
            have h2 := (List.getElem?_eq_some_iff.mp hc)
            obtain ⟨l1, e1⟩ := h1
            obtain ⟨l2, e2⟩ := h2
            have := (List.getElem_inj nd).mp (e1.trans e2.symm)
            omega
          exact ⟨g2.none_keep m1 (by rw [m2]; exact Option.some_ne_none _), x1, y1, t1, keepH c _ trivial m2 ncb, m3⟩
      exact ⟨nxt, fun _ _ _ _ _ _ _ _ z => z.elim, fun _ _ _ _ _ _ _ _ _ _ _ _ z => z.elim, fun _ _ _ _ _ z => z.elim, nxt, ⟨fun _ _ _ _ _ _ z => absurd z id⟩⟩
  · obtain ⟨G', S', g', sL', _, _, _⟩ := w
    exact hr L G0 H0 _ E (ρ.set jb .u) 0 σ' H' ⟨G', S', g', sL', fun i ds p e => absurd e (noU i ds)⟩ qr ⟨fun _ _ _ _ _ z => z.elim, l.rt, l.rn, fun _ _ _ _ _ z => z.elim, fun _ _ _ _ _ z => z.elim, l.xx⟩
end
section
variable {X : Cx} {js jb kb k' : Nat} {v : V} {x y : Str} {px py pk pc pf pos : Pos} {k : Int} {jj} {body rest : List Stmt} {us : TS} {dsb dsr : DS}
theorem xss_bags (jb : Nat) (F : Fn X.prog X.w X.K X.mg X.base "_law_bags" kb ["script", "most"] (spBags X.K)) (hr : Room k' X.A) (hN : X.N.Nodup) (hb : ∀ b, ∃ ts, XSs X (some b) jb none body ts dsb) (h2 : XSs X none 1000000 none rest us dsr) (hg : Gl X "_law_bags" := by rfl) (hk : kb ≤ k' := by decide)
    (hc : X.calm = true := by rfl) (hp : PassesOwn (model X.prog X.w) X.A X.env X.xe) (hx : X.N[js]? = some x := by rfl) (hv : Vis X.env.scope x := by first | exact Or.inl rfl | exact Or.inr (Or.inl rfl) | exact Or.inr (Or.inr rfl)) (hd : (x == ("__debug__" : Str)) = false := by decide) (hcd : (x == ("__classdict__" : Str)) = false := by decide)
    (hy : X.N[jb]? = some y := by rfl) (hyl : Loc X.env.scope y := by first | exact Or.inl rfl | exact Or.inr rfl) (hf : X.fn y = true ∨ X.env.scope.names.lookup y = some .local := by first | exact .inl rfl | exact .inr rfl)
    (he1 : starEach (.Name x px :: [.Constant (.int k) jj pk]) X.env = (false, eval (.Name x px) X.env) :: starEach [.Constant (.int k) jj pk] X.env := by rfl) (he2 : starEach (.Constant (.int k) jj pk :: []) X.env = (false, eval (.Constant (.int k) jj pk) X.env) :: starEach [] X.env := by rfl)
    (hpl : (backTo pc (starEach [.Constant (.int k) jj pk] X.env)).any (·.1) = false := by rfl) (hs : ∀ z, foldedSetIterable (.Call (.Name "_law_bags" pf) [.Name x px, .Constant (.int k) jj pk] [] pc) X.env z = pure z := by intro _; rfl) :
    XSs X none js (some v) (.For (.Name y py) (.Call (.Name "_law_bags" pf) [.Name x px, .Constant (.int k) jj pk] [] pc) body [] pos :: rest) (tSeq (tFor (iList X.K (tCall (spBags X.K) [] E0 (tCons (tVar js) (tCons (tC (.int k)) tNil)))) (gName jb) (tsOf X.K jb dsb)) us) (dBags jb k dsb dsr) := by
  obtain ⟨f, fd, F1, hm, hk1, hbn⟩ := F.ex
  exact ⟨pss_cons (ps_for hp hc (pi_list (pe_call F1 (hr.mono hk) hg hm hk1 hbn .nil pass0 (pa_cons (pe_var hx hv hd hcd) (pa_cons pe_int pa_nil he2) he1) (by decide) he1 hpl)) (pg_name hN hy hyl hf) (tsOf_pe hb) hs) h2.pe, sim_bags h2.sm⟩
end
end TC
section
variable {P : Program} {w : World} {K : PySem.W.Frag} {mg : Str → Option Value} {base : Heap} {st : Stmt} {f : Addr} {fd : FuncData} {N : List Str} {k : Nat}
/-- the script, if it is known as a list -/
noncomputable def scrG (H : Hp) (a : Addr) : Hp := fun b => by
  classical
  exact if b = a ∧ ∃ xs, H a = some (.lst xs) then H a else none
theorem scrG_same {H : Hp} {a : Addr} : Same (scrG H a) H := fun b o e => by
  unfold scrG at e
  split at e
  · rename_i h
    rw [h.1]
    exact e
  · cases e
theorem scrG_scr {H : Hp} {a : Addr} {ns : List Int} (h : SqL K H a (ns.map V.int)) : Scr K (scrG H a) H a ns := by
  rcases h with (h | ⟨ob, h⟩) | h
  · exact .inl (.inl (by unfold scrG; rw [if_pos ⟨rfl, _, h⟩]; exact h))
  · exact .inl (.inr ⟨ob, h⟩)
  · exact .inr fun _ => .inr h
theorem scrG_tab {H : Hp} {a P : Addr} {q : Str} (t : LamX.TabS H P q) : scrG H a P = none := by
  obtain ⟨ps, h1, _⟩ := t
  unfold scrG
  split
  · rename_i h
    obtain ⟨rfl, xs, h2⟩ := h
    rw [h1] at h2
    cases h2
  · rfl
theorem start_law [TabC] {H : Hp} {a : Addr} {ns : List Int} (hN : 1 ≤ N.length) (hscr : SqL K H a (ns.map V.int)) (hns : ns.length ≤ 63) (ht : ∀ P ∈ TabC.T, LamX.TabS H P (TabG.nm P)) : Stt K none 0 (some (.ref a)) (scrG H a) H 0 (L2.start N [.ref a]) (List.replicate N.length .u) := by
  have no : ∀ (i : Nat) (s : SV), (List.replicate N.length SV.u)[i]? = some s → s = .u := fun i s e => by
    rw [List.getElem?_replicate] at e
    split at e
    · cases e
      rfl
    · cases e
  exact { gh := scrG_same, gb := fun _ e => (by cases e), bi := Bag.no, bj := fun _ e => (by cases e), pj := fun v e => (by
            cases e
            exact ⟨rfl, rfl, a, ns, rfl, hns, scrG_scr hscr⟩)
          ln := by
            unfold L2.start
            rw [List.length_append, List.length_map, List.length_replicate, List.length_replicate, List.length_singleton]
            omega
          ft := fun i d e => (by cases no i _ e), ow := fun i d e => (by cases no i _ e), sp := fun i j d e p h => (by cases no i _ h), gf := fun i P e => (by cases no i _ e), tk := fun P h => ⟨ht P h, scrG_tab (ht P h)⟩ }
/-- the law that makes lambdas: T its tables -/
def lawSpT (K : PySem.W.Frag) (T : List Addr) : Sp := fun vs H Q E => lawSp K vs H Q E ∧ ∀ P ∈ T, LamX.TabS H P (TabG.nm P)
theorem law_mkT (T : List Addr) {c : Value} (F : FunD K "law" "law" (defArgs st) (defBody st) (defScope st) [] [] f fd) (hc : fd.code = c) (sc : FnScope N ["script"] (defScope st)) (hN : 1 ≤ N.length)
    (body : ∀ (a : Addr) (A : Around) (outer : List Env) (s : Shared) (H : Hp) (E : XK), Room k (A.deeper (envOfC "law" (defScope st) s.heap.objs.size f c)) →
      ∃ ts ds, @XSs _ ⟨T⟩ (cxOf CX0 P w K mg base N "law" (defScope st) f c A outer s H E).nox none 0 (some (.ref a)) (defBody st) ts ds ∧ ds { nx := fun _ _ => False, rt := fun d _ => d = .bool true } (List.replicate N.length .u) 0) :
    FnOk P w K mg base CX0 (k + 1) f fd ["script"] (lawSpT K T) := by
  obtain ⟨oc, od, dV, kV, doc, pm, an, cdv, ct, osl, rfl, lk, hcd, _, _⟩ := F.ex
  refine fn_of lk hcd sc (fun vs H Q E h => ?_) (fun A outer s H vs Q E hr h => ?_)
  · obtain ⟨⟨a, ns, rfl, _⟩, _⟩ := h
    rfl
  · obtain ⟨⟨a, ns, rfl, hscr, hns, q⟩, ht⟩ := h
    have hc : cdv = c := hc
    subst hc
    obtain ⟨ts, ds, X1, rd⟩ := body a A outer s H E hr
    letI : TabC := ⟨T⟩
    have S := start_law (K := K) (N := N) hN hscr hns ht
    refine ⟨ts, PSs.nox X1.pe, X1.sm (scrG H a) (scrG H a) H _ _ _ 0 _ H ⟨_, S, Go.refl scrG_same, Same.refl _, fun i ds p e => ?_⟩ rd ?_⟩
    · rw [List.getElem?_replicate] at e
      split at e <;> cases e
    refine ⟨fun _ _ _ _ _ z => z.elim, fun v d f G' H' g b r z => ?_, fun _ _ _ _ _ _ _ _ _ _ _ _ z => z.elim, fun _ _ _ _ _ z => z.elim, fun _ _ _ _ _ z => z.elim, Xt.no⟩
    subst z
    cases r
    exact q H'
/-- the law -/
theorem law_mk (F : FunD K "law" "law" (defArgs st) (defBody st) (defScope st) [] [] f fd) (sc : FnScope N ["script"] (defScope st)) (hN : 1 ≤ N.length)
    (body : ∀ (a : Addr) (cdv : Value) (A : Around) (outer : List Env) (s : Shared) (H : Hp) (E : XK), Room k (A.deeper (envOfC "law" (defScope st) s.heap.objs.size f cdv)) →
      ∃ ts ds, XSs (cxOf CX0 P w K mg base N "law" (defScope st) f cdv A outer s H E).nox none 0 (some (.ref a)) (defBody st) ts ds ∧ ds { nx := fun _ _ => False, rt := fun d _ => d = .bool true } (List.replicate N.length .u) 0) :
    FnOk P w K mg base CX0 (k + 1) f fd ["script"] (lawSp K) := by
  refine F.ok sc (fun vs H Q E h => ?_) (fun cdv A outer s H vs Q E hr h => ?_)
  · obtain ⟨a, ns, rfl, _⟩ := h
    rfl
  · obtain ⟨a, ns, rfl, hscr, hns, q⟩ := h
    obtain ⟨ts, ds, X1, rd⟩ := body a cdv A outer s H E hr
    have S := @start_law _ K N TabC.nil H a ns hN hscr hns fun P h => absurd (show P ∈ ([] : List Addr) from h) (by simp)
    refine ⟨ts, PSs.nox X1.pe, X1.sm (scrG H a) (scrG H a) H _ _ _ 0 _ H ⟨_, S, Go.refl scrG_same, Same.refl _, fun i ds p e => ?_⟩ rd ?_⟩
    · rw [List.getElem?_replicate] at e
      split at e <;> cases e
    refine ⟨fun _ _ _ _ _ z => z.elim, fun v d f G' H' g b r z => ?_, fun _ _ _ _ _ _ _ _ _ _ _ _ z => z.elim, fun _ _ _ _ _ z => z.elim, fun _ _ _ _ _ z => z.elim, Xt.no⟩
    subst z
    cases r
    exact q H'
end
section TC
variable [TabC]
theorem kinds_rp {K : PySem.W.Frag} {x : Str} (h : He.tupB K x [.str "after", .str "fixed", .str "pile"] = true) : ∀ G, Rp K G (.ref (He.ga K x)) (.tuple [.str "after", .str "fixed", .str "pile"]) := fun G =>
  .tup (He.tupB_ok h G) (.cons (.str _) (.cons (.str _) (.cons (.str _) .nil)))
end TC
end Dt
namespace Dt
open PySem PySem.Spec PyProof.Rows L2
variable [TabG]
section TC
variable [TabC]
/-- one statement at a time: what comes behind is a name -/
theorem seqK {s t : DS} {D : DEnds} {ρ : Rho} {f : Nat} (h : ∀ k : Rho → Nat → Prop, (∀ ρ' f', t D ρ' f' → k ρ' f') → s { D with nx := k } ρ f) : dSeq s t D ρ f := h _ fun _ _ q => q
theorem ifK {t : DT} {a b : DS} {D : DEnds} {ρ : Rho} {f : Nat} (h : ∀ kt kf : Nat → Prop, (∀ f, a D ρ f → kt f) → (∀ f, b D ρ f → kf f) → t (vw ρ) f fun c f1 => if c = true then kt f1 else kf f1) : dIf t a b D ρ f := h _ _ (fun _ q => q) fun _ q => q
theorem forK {tg : Tg} {di : DI} {body : DS} {D : DEnds} {ρ : Rho} {f : Nat} (h : ∀ R : List PyData → Nat → Prop, (∀ items f1 (Inv : List PyData → Rho → Nat → Prop), Inv items ρ f1 → (∀ x xs ρ f, Inv (x :: xs) ρ f → match setT tg x ρ with
  | some ρ' => body { D with nx := Inv xs, ct := Inv xs, bk := D.nx } ρ' f
  | none => False) → (∀ ρ f, Inv [] ρ f → D.nx ρ f) → R items f1) → di ρ f R) : dForI tg di body D ρ f := h _ fun items f1 Inv h0 hs he => ⟨Inv, h0, hs, he⟩
/-- one argument, and the rest of them in a tuple -/
def wStar (wd : RCD) : RCD := fun ds Q => ∃ a rs, ds = a :: rs ∧ wd [a, .tuple rs] Q
/-- a def of the module by its name, called positionally however it binds -/
structure FnS (P : Program) (w : World) (K : PySem.W.Frag) (mg : Str → Option Value) (base : Heap) (x : Str) (k : Nat) (ps : List Str) (sp : Sp) : Prop where
  ex : ∃ f : Addr, FnR P w K mg base CX0 k f sp ∧ mg x = some (.ref f) ∧ PySem.W.keepIn K (.ref f) = true
section
variable {X : Cx} {mb : Option Addr} {js : Nat} {pn : Option V} {e : Expr} {es : List Expr} {tas : TA} {das : DA} {n k k' : Nat} {x : Str} {p pos : Pos} {ps : List Str}
theorem pe_callF {CX : CXT} {f : Addr} {sp : Sp} {E : XK} {t : TA} (F : FnR X.prog X.w X.K X.mg X.base CX k f sp) (hr : Room k X.A) (hg : Gl X x) (hm : X.mg x = some (.ref f)) (hk : PySem.W.keepIn X.K (.ref f) = true) (hx : Passes CX X E)
    (ha : PA X (e :: es) t) (hdb : (x == ("__debug__" : Str)) = false := by decide) (he : starEach (e :: es) X.env = (false, eval e X.env) :: starEach es X.env := by rfl) (hpl : (backTo pos (starEach es X.env)).any (·.1) = false := by rfl) :
    PE X (.Call (.Name x p) (e :: es) [] pos) (tCall sp [] E t) := by
  refine ⟨fun pins s σ H Q I h => ?_⟩
  refine wpAny_Call_Name_kw (ld_glob I hg hm ?_ hdb)
  refine PySem.W.callWith_K (h₀ := X.base) I.ok.mod.kin hk (thn (ha.run pos pins s σ H _ I h) fun us s1 ⟨vs, H1, I1, r, q⟩ => ⟨I1.kIn, ?_⟩) he hpl
  have q : sp (vs ++ []) H1 Q E := q
  rw [List.append_nil] at q
  exact wpAny_call (run_fnR F hr hx I1 r q)
theorem xe_callS {w : RCD} (F : FnS X.prog X.w X.K X.mg X.base x k ps (spP X.K w)) (hr : Room k' X.A) (hg : Gl X x) (ha : XA X mb js pn (e :: es) n tas das) (hk : k ≤ k' := by decide) (hdb : (x == ("__debug__" : Str)) = false := by decide)
    (he : starEach (e :: es) X.env = (false, eval e X.env) :: starEach es X.env := by rfl) (hpl : (backTo pos (starEach es X.env)).any (·.1) = false := by rfl) : XE X mb js pn (.Call (.Name x p) (e :: es) [] pos) (tCall (spP X.K w) [] E0 tas) (dCall w das) := by
  obtain ⟨f, F1, hm, hk1⟩ := F.ex
  refine ⟨pe_callF F1 (hr.mono hk) hg hm hk1 pass0 ha.pe hdb he hpl, fun G H f σ ρ P S q Q kk => ha.sm G H f σ ρ _ S q _ fun vs ds f1 G1 H1 l1 g1 b1 r1 q1 => ?_⟩
  show spP X.K w (vs ++ []) H1 Q E0
  rw [List.append_nil]
  exact ⟨G1, ds, _, g1.gh, r1, q1, fun v d G' H' g r pd => kk v d f1 G' H' (g1.trans g.pure) (b1.pur g) r pd⟩
end
end TC
section
variable {P : Program} {w : World} {K : PySem.W.Frag} {mg : Str → Option Value} {base : Heap} {x : Str} {st : Stmt} {f : Addr} {fd : FuncData} {N ps : List Str} {k : Nat}
theorem cxUp_0 : StX.CXUp CX0 := fun _ _ _ _ _ _ _ _ _ _ _ z => z
/-- def f(a, *rest): one parameter ahead -/
theorem fnS_mk {p1 pv : Str} {wd : RCD} (F : FunD K x x (defArgs st) (defBody st) (defScope st) [] [] f fd) (sc : FnScope N ([p1] ++ [pv]) (defScope st)) (hm : mg x = some (.ref f))
    (hb0 : ∀ (kV doc pm : Value) (an : Option Addr) (cdv ct : Value) (a : Value), bindArgs (PySem.W.fnOf x x (defArgs st) (defBody st) (defScope st) .none kV doc pm an cdv ct) ⟨[a], []⟩ = (newTuple [] >>= fun t => pure [(p1, a), (pv, t)]))
    (hb1 : ∀ (kV doc pm : Value) (an : Option Addr) (cdv ct : Value) (a r : Value) (rs : List Value), bindArgs (PySem.W.fnOf x x (defArgs st) (defBody st) (defScope st) .none kV doc pm an cdv ct) ⟨a :: r :: rs, []⟩ = (newTuple (r :: rs) >>= fun t => pure [(p1, a), (pv, t)]))
    (hw : ∀ ds P, wd ds P → ∃ a rs, ds = [a, .tuple rs] ∧ rs.length ≤ 16777216) (hN : 2 ≤ N.length)
    (body : ∀ (cdv : Value) (A : Around) (outer : List Env) (s : Shared) (H : Hp) (E : XK), Room k (A.deeper (envOfC x (defScope st) s.heap.objs.size f cdv)) →
      ∃ ts ds, XSs (cxOf CX0 P w K mg base N x (defScope st) f cdv A outer s H E).nox none 1000000 none (defBody st) ts ds ∧ ∀ args Q, wd args Q → ds { nx := fun _ _ => Q .none, rt := fun d _ => Q d, rn := fun es _ => Q (.list es) } (rho0 N args) 0) :
    FnS P w K mg base x (k + 1) [p1, pv] (spP K (wStar wd)) := by
  obtain ⟨oc, od, dV, kV, doc, pm, an, cdv0, ct, osl, rfl, lk, hcd, hD, _⟩ := F.ex
  have hdV : dV = .none := by
    rcases hD with ⟨_, h⟩ | ⟨h, _⟩
    · exact h
    · exact absurd rfl h
  subst hdV
  refine ⟨f, ?_, hm, F.kp⟩
  refine (StX.fn_star (sp := spP K wd) lk hcd sc cxUp_0 (StX.bind_star1 (B := fun us => bindArgs (PySem.W.fnOf x x (defArgs st) (defBody st) (defScope st) .none kV doc pm an cdv0 ct) ⟨us, []⟩) (hb0 kV doc pm an cdv0 ct) (hb1 kV doc pm an cdv0 ct)) fun A outer s H vs Q E hr h => ?_).imp fun vs H Q E h => ?_
  · obtain ⟨G, ds, P', gh, r, q, kk⟩ := h
    obtain ⟨ts, dd, X1, rd⟩ := body cdv0 A outer s H E hr
    obtain ⟨a, rs, rfl, _⟩ := hw ds P' q
    have S0 := start_stt (N := N) gh r hN
    refine ⟨ts, PSs.nox X1.pe, X1.sm G G H _ _ (rho0 N [a, .tuple rs]) 0 (L2.start N vs) H ⟨G, S0, Go.refl gh, Same.refl G, fun i es p e => ?_⟩ (rd _ P' q) ?_⟩
    · unfold rho0 at e
      rw [List.getElem?_append] at e
      split at e
      · rw [List.getElem?_map] at e
        cases q : [a, PyData.tuple rs][i]? with
        | none =>
          rw [q] at e
          cases e
        | some d =>
          rw [q] at e
          cases e
      · rw [List.getElem?_replicate] at e
        split at e <;> cases e
    · refine ⟨fun ρ f σ H' a q' => ?_, fun v d f G' H' g b r' q' => kk v d G' H' g r' q', fun p us es f G' H' g b h0 gp hp r' q' => kk (.ref p) (.list es) (upd G' p (.lst us)) H' (g.add h0 gp hp) (.lst upd_same (r'.mono (same_new gp))) q', fun _ _ _ _ _ z => z.elim, fun _ _ _ _ _ z => z.elim, Xt.no⟩
      obtain ⟨G', S', g', _, _⟩ := a
      exact kk .non .none G' H' g' .non q'
  · obtain ⟨G, ds, P', gh, r, ⟨a, rs, rfl, q⟩, kk⟩ := h
    cases r with
    | cons r1 r2 =>
      rename_i v vs
      obtain ⟨a', rs', e, hl⟩ := hw _ _ q
      have hl2 : rs.length ≤ 16777216 := by
        simp only [List.cons.injEq, PyData.tuple.injEq, and_true] at e
        rw [e.2]
        exact hl
      refine ⟨[v], vs, rfl, rfl, by rw [r2.len, sizeLine_eq]; exact hl2, fun p hp => ?_⟩
      have gp := same_none gh hp
      refine ⟨upd G p (.tup vs), [a, .tuple rs], P', ?_, ?_, q, fun u d G' H' g r' pd => ?_⟩
      · exact (go_new gh hp).gh
      · exact .cons (r1.mono (same_new gp)) (.cons (.tup (.inl (.inl upd_same)) (r2.mono (same_new gp))) .nil)
      · exact kk u d G' H' ((go_new gh hp).trans g) r' pd
end
section TC
variable [TabC]
end TC
end Dt
namespace Mt
open PySem Dt
inductive Kd where
  | after
  | fixed
  | pile
  deriving DecidableEq
def Kd.s : Kd → Str
  | .after => "after"
  | .fixed => "fixed"
  | .pile => "pile"
structure Rule where
  kd : Kd
  ev : Int
  st : Int
  deriving DecidableEq
def Rule.Ok (r : Rule) : Prop := (1 ≤ r.ev ∧ r.ev ≤ 100) ∧ 0 ≤ r.st ∧ r.st ≤ 1000
def ruleD (r : Rule) : PyData := .tuple [.str r.kd.s, .int r.ev, .int r.st]
def intsD (ns : List Int) : List PyData := ns.map PyData.int
def logD (ns : List Int) : PyData := .tuple (intsD ns)
def Log (most : Nat) (ns : List Int) : Prop := ns.Pairwise (· < ·) ∧ ns.length ≤ most ∧ ∀ x ∈ ns, 0 ≤ x ∧ x ≤ 1000000
def nxt (r : Rule) (due day : Int) : Int := match r.kd with
  | .after => day + r.ev
  | .pile => due + r.ev
  | .fixed => day + r.ev - (day - r.st) % r.ev
/-- from the due day: (day, due day) for each time, the next due day -/
def pl (r : Rule) : List Int → Int → List (Int × Int) × Int
  | [], due => ([], due)
  | d :: ds, due => if due ≤ d then ((d, due) :: (pl r ds (nxt r due d)).1, (pl r ds (nxt r due d)).2) else pl r ds due
def rowD (x : Int × Int) : PyData := .tuple [.int x.1, .int x.2]
def rowsD (l : List (Int × Int)) : List PyData := l.map rowD
def rows (r : Rule) (ns : List Int) : List (Int × Int) := (pl r ns r.st).1
def due (r : Rule) (ns : List Int) : Int := (pl r ns r.st).2
def done (r : Rule) (ns : List Int) : List Int := (rows r ns).map Prod.fst
theorem pl_len (r : Rule) : ∀ (ns : List Int) (u : Int), (pl r ns u).1.length ≤ ns.length
  | [], u => Nat.le_refl _
  | d :: ds, u => by
    unfold pl
    split
    · simp only [List.length_cons]
      have := pl_len r ds (nxt r u d)
      omega
    · have := pl_len r ds u
      simp only [List.length_cons]
      omega
theorem rows_len (r : Rule) (ns : List Int) : (rows r ns).length ≤ ns.length := pl_len r ns r.st
def wF {α : Type} (ok : α → Prop) (args : α → List PyData) (res : α → PyData) : RCD := fun ds P => ∃ a, ok a ∧ ds = args a ∧ P (res a)
def wN {α : Type} (ok : α → Prop) (args : α → List PyData) (res : α → List PyData) : List PyData → (List PyData → Prop) → Prop := fun ds P => ∃ a, ok a ∧ ds = args a ∧ P (res a)
theorem wF_len {α : Type} {ok : α → Prop} {args : α → List PyData} {res : α → PyData} {n : Nat} (h : ∀ a, (args a).length = n) : ∀ ds P, wF ok args res ds P → ds.length = n := fun ds P q => by
  obtain ⟨a, _, e, _⟩ := q
  rw [e, h a]
theorem wN_len {α : Type} {ok : α → Prop} {args : α → List PyData} {res : α → List PyData} {n : Nat} (h : ∀ a, (args a).length = n) : ∀ ds P, wN ok args res ds P → ds.length = n := fun ds P q => by
  obtain ⟨a, _, e, _⟩ := q
  rw [e, h a]
def wDueAfter : RCD := wF (fun a : Rule × Int × Int => 1 ≤ a.1.ev) (fun a => [ruleD a.1, .int a.2.1, .int a.2.2]) (fun a => .int (nxt a.1 a.2.1 a.2.2))
def wPlayed : RCD := wF (fun a : Rule × List Int => 1 ≤ a.1.ev ∧ a.2.length ≤ 1000000) (fun a => [ruleD a.1, logD a.2]) (fun a => .tuple [.list (rowsD (rows a.1 a.2)), .int (due a.1 a.2)])
theorem ks1 : decide (("after" : Str) = "after") = true := by decide +kernel
theorem ks2 : decide (("after" : Str) = "fixed") = false := by decide +kernel
theorem ks3 : decide (("after" : Str) = "pile") = false := by decide +kernel
theorem ks4 : decide (("fixed" : Str) = "after") = false := by decide +kernel
theorem ks5 : decide (("fixed" : Str) = "fixed") = true := by decide +kernel
theorem ks6 : decide (("fixed" : Str) = "pile") = false := by decide +kernel
theorem ks7 : decide (("pile" : Str) = "after") = false := by decide +kernel
theorem ks8 : decide (("pile" : Str) = "fixed") = false := by decide +kernel
theorem ks9 : decide (("pile" : Str) = "pile") = true := by decide +kernel
theorem ke1 : (("after" : Str) = "fixed") = False := eq_false (by decide +kernel)
theorem ke2 : (("after" : Str) = "pile") = False := eq_false (by decide +kernel)
theorem ke3 : (("fixed" : Str) = "after") = False := eq_false (by decide +kernel)
theorem ke4 : (("fixed" : Str) = "pile") = False := eq_false (by decide +kernel)
theorem ke5 : (("pile" : Str) = "after") = False := eq_false (by decide +kernel)
theorem ke6 : (("pile" : Str) = "fixed") = False := eq_false (by decide +kernel)
theorem lcGo_map {tg : Tg} {te : DE} {ρ : Rho} (g : PyData → PyData) : ∀ {xs acc : List PyData} {f : Nat} {P : List PyData → Nat → Prop},
    (∀ x ∈ xs, match setT tg x ρ with
      | some ρ' => ∀ (f : Nat) (Q : PyData → Nat → Prop), Q (g x) f → te ρ' f Q
      | none => False) → P (acc ++ xs.map g) f → lcGo tg dYes te ρ xs acc f P
  | [], acc, f, P, _, q => by
    unfold lcGo
    rw [List.map_nil, List.append_nil] at q
    exact q
  | x :: xs, acc, f, P, h, q => by
    have hx := h x List.mem_cons_self
    unfold lcGo
    split
    · rename_i ρ' e
      rw [e] at hx
      unfold dYes
      dsimp only
      rw [if_pos rfl]
      refine hx f _ (lcGo_map g (fun y hy => h y (List.mem_cons_of_mem _ hy)) ?_)
      rw [List.append_assoc]
      exact q
    · rename_i e
      rw [e] at hx
      exact hx
theorem lcGo_filter {tg : Tg} {tt : DT} {te : DE} {ρ : Rho} (p : PyData → Bool) (g : PyData → PyData) : ∀ {xs acc : List PyData} {f : Nat} {P : List PyData → Nat → Prop},
    (∀ x ∈ xs, match setT tg x ρ with
      | some ρ' => (∀ (f : Nat) (Q : Bool → Nat → Prop), Q (p x) f → tt ρ' f Q) ∧ (p x = true → ∀ (f : Nat) (Q : PyData → Nat → Prop), Q (g x) f → te ρ' f Q)
      | none => False) → P (acc ++ (xs.filter p).map g) f → lcGo tg tt te ρ xs acc f P
  | [], acc, f, P, _, q => by
    unfold lcGo
    rw [List.filter_nil, List.map_nil, List.append_nil] at q
    exact q
  | x :: xs, acc, f, P, h, q => by
    have hx := h x List.mem_cons_self
    unfold lcGo
    split
    · rename_i ρ' e
      rw [e] at hx
      refine hx.1 f _ ?_
      by_cases hp : p x = true
      · rw [if_pos hp]
        refine hx.2 hp f _ (lcGo_filter p g (fun y hy => h y (List.mem_cons_of_mem _ hy)) ?_)
        rw [List.append_assoc]
        rw [List.filter_cons, if_pos hp] at q
        exact q
      · rw [if_neg hp]
        refine lcGo_filter p g (fun y hy => h y (List.mem_cons_of_mem _ hy)) ?_
        rw [List.filter_cons, if_neg hp] at q
        exact q
    · rename_i e
      rw [e] at hx
      exact hx
/-- over a list that comes of another one -/
theorem lcGo_of {α : Type} {tg : Tg} {te : DE} {ρ : Rho} (d : α → PyData) (g : α → PyData) : ∀ {xs : List α} {acc : List PyData} {f : Nat} {P : List PyData → Nat → Prop},
    (∀ x ∈ xs, match setT tg (d x) ρ with
      | some ρ' => ∀ (f : Nat) (Q : PyData → Nat → Prop), Q (g x) f → te ρ' f Q
      | none => False) → P (acc ++ xs.map g) f → lcGo tg dYes te ρ (xs.map d) acc f P
  | [], acc, f, P, _, q => by
    unfold lcGo
    rw [List.map_nil, List.append_nil] at q
    exact q
  | x :: xs, acc, f, P, h, q => by
    have hx := h x List.mem_cons_self
    rw [List.map_cons]
    unfold lcGo
    split
    · rename_i ρ' e
      rw [e] at hx
      unfold dYes
      dsimp only
      rw [if_pos rfl]
      refine hx f _ (lcGo_of d g (fun y hy => h y (List.mem_cons_of_mem _ hy)) ?_)
      rw [List.append_assoc]
      exact q
    · rename_i e
      rw [e] at hx
      exact hx
theorem lcGo_ofF {α : Type} {tg : Tg} {tt : DT} {te : DE} {ρ : Rho} (d : α → PyData) (p : α → Bool) (g : α → PyData) : ∀ {xs : List α} {acc : List PyData} {f : Nat} {P : List PyData → Nat → Prop},
    (∀ x ∈ xs, match setT tg (d x) ρ with
      | some ρ' => (∀ (f : Nat) (Q : Bool → Nat → Prop), Q (p x) f → tt ρ' f Q) ∧ (p x = true → ∀ (f : Nat) (Q : PyData → Nat → Prop), Q (g x) f → te ρ' f Q)
      | none => False) → P (acc ++ (xs.filter p).map g) f → lcGo tg tt te ρ (xs.map d) acc f P
  | [], acc, f, P, _, q => by
    unfold lcGo
    rw [List.filter_nil, List.map_nil, List.append_nil] at q
    exact q
  | x :: xs, acc, f, P, h, q => by
    have hx := h x List.mem_cons_self
    rw [List.map_cons]
    unfold lcGo
    split
    · rename_i ρ' e
      rw [e] at hx
      refine hx.1 f _ ?_
      by_cases hp : p x = true
      · rw [if_pos hp]
        refine hx.2 hp f _ (lcGo_ofF d p g (fun y hy => h y (List.mem_cons_of_mem _ hy)) ?_)
        rw [List.append_assoc]
        rw [List.filter_cons, if_pos hp] at q
        exact q
      · rw [if_neg hp]
        refine lcGo_ofF d p g (fun y hy => h y (List.mem_cons_of_mem _ hy)) ?_
        rw [List.filter_cons, if_neg hp] at q
        exact q
    · rename_i e
      rw [e] at hx
      exact hx
def inRg (v : PyData) (lo hi : Int) : Bool := match v with
  | .int i => decide (lo ≤ i) && decide (i ≤ hi)
  | _ => false
def kinds : List Str := ["after", "fixed", "pile"]
def isKindD (v : PyData) : Bool := match v with
  | .str s => decide (s ∈ kinds)
  | _ => false
def isRuleD (v : PyData) : Bool := match v with
  | .tuple [a, b, c] => isKindD a && (inRg b 1 100 && inRg c 0 1000)
  | _ => false
def ascD : List PyData → Bool
  | .int a :: .int b :: r => decide (a < b) && ascD (.int b :: r)
  | _ => true
def areDaysD (v : PyData) (most last : Int) : Bool := match v with
  | .tuple ds => decide ((ds.length : Int) ≤ most) && (ds.all (fun d => inRg d 0 last) && ascD ds)
  | _ => false
def wInRange : RCD := wF (fun _ : PyData × Int × Int => True) (fun a => [a.1, .int a.2.1, .int a.2.2]) (fun a => .bool (inRg a.1 a.2.1 a.2.2))
def wIsKind : RCD := wF (fun _ : PyData => True) (fun a => [a]) (fun a => .bool (isKindD a))
def wIsRule : RCD := wF (fun _ : PyData => True) (fun a => [a]) (fun a => .bool (isRuleD a))
def wAreDays : RCD := wF (fun a : PyData × Int × Int => a.2.1 ≤ 1000) (fun a => [a.1, .int a.2.1, .int a.2.2]) (fun a => .bool (areDaysD a.1 a.2.1 a.2.2))
def wIsLog : RCD := wF (fun _ : PyData => True) (fun a => [a]) (fun a => .bool (areDaysD a 80 1000000))
def wCheckRule : RCD := wF (fun a : PyData => isRuleD a = true) (fun a => [a]) (fun _ => .none)
def wCheckLog : RCD := wF (fun a : PyData => areDaysD a 80 1000000 = true) (fun a => [a]) (fun _ => .none)
theorem isRule_ok {r : Rule} (h : r.Ok) : isRuleD (ruleD r) = true := by
  obtain ⟨k, e, s⟩ := r
  obtain ⟨⟨h1, h2⟩, h3, h4⟩ := h
  simp only [] at h1 h2 h3 h4
  unfold ruleD isRuleD
  have hk : isKindD (.str k.s) = true := by
    cases k <;> (unfold isKindD; exact decide_eq_true (by unfold Kd.s kinds; simp))
  simp only []
  rw [hk]
  simp [inRg, h1, h2, h3, h4]
theorem asc_ok : ∀ {ns : List Int}, ns.Pairwise (· < ·) → ascD (intsD ns) = true
  | [], _ => rfl
  | [_], _ => rfl
  | a :: b :: r, h => by
    have h1 := List.rel_of_pairwise_cons h (List.mem_cons_self)
    have h2 := asc_ok (List.Pairwise.of_cons h)
    show (decide (a < b) && ascD (intsD (b :: r))) = true
    rw [h2, decide_eq_true h1]
    rfl
theorem areDays_ok {ns : List Int} {most last : Int} (h : ns.Pairwise (· < ·)) (hl : (ns.length : Int) ≤ most) (hb : ∀ x ∈ ns, 0 ≤ x ∧ x ≤ last) : areDaysD (logD ns) most last = true := by
  unfold areDaysD logD
  simp only []
  rw [asc_ok h, decide_eq_true (show ((intsD ns).length : Int) ≤ most by unfold intsD; rw [List.length_map]; exact hl)]
  have : (intsD ns).all (fun d => inRg d 0 last) = true := by
    rw [List.all_eq_true]
    intro d hd
    obtain ⟨x, hx, rfl⟩ := List.mem_map.mp hd
    obtain ⟨h1, h2⟩ := hb x hx
    unfold inRg
    simp [h1, h2]
  rw [this]
  rfl
theorem isLog_ok {ns : List Int} {n : Nat} (h : Log n ns) (hn : n ≤ 80) : areDaysD (logD ns) 80 1000000 = true := areDays_ok h.1 (by have := h.2.1; omega) h.2.2
def wDoneDays : List PyData → (List PyData → Prop) → Prop := wN (fun a : Rule × List Int => a.1.Ok ∧ Log 80 a.2) (fun a => [ruleD a.1, logD a.2]) (fun a => intsD (done a.1 a.2))
theorem isi_tt (ds : List PyData) : isiD "tuple" (.tuple ds) = true := by simp [isiD, tyN]
theorem isi_tn {v : PyData} (h : ∀ ds, v ≠ .tuple ds) : isiD "tuple" v = false := by
  cases v <;> first
    | (exact absurd rfl (h _))
    | (simp (config := { decide := true }) [isiD, tyN])
theorem len3 : ∀ {ds : List PyData}, ds.length = 3 → ∃ a b c, ds = [a, b, c]
  | [a, b, c], _ => ⟨a, b, c, rfl⟩
theorem isRule_n3 {ds : List PyData} (h : ¬ ds.length = 3) : isRuleD (.tuple ds) = false := by
  match ds, h with
  | [], _ => rfl
  | [_], _ => rfl
  | [_, _], _ => rfl
  | [_, _, _], h => exact absurd rfl h
  | _ :: _ :: _ :: _ :: _, _ => rfl
theorem isRule_nt {v : PyData} (h : ∀ ds, v ≠ .tuple ds) : isRuleD v = false := by
  cases v <;> first
    | (exact absurd rfl (h _))
    | rfl
theorem areDays_nt {v : PyData} {m l : Int} (h : ∀ ds, v ≠ .tuple ds) : areDaysD v m l = false := by
  cases v <;> first
    | (exact absurd rfl (h _))
    | rfl
theorem tup_or (v : PyData) : (∃ ds, v = .tuple ds) ∨ ∀ ds, v ≠ .tuple ds := by
  cases v with
  | tuple ds => exact .inl ⟨ds, rfl⟩
  | _ => exact .inr fun _ h => by cases h
theorem all_ints {lo hi : Int} : ∀ {ds : List PyData}, ds.all (fun d => inRg d lo hi) = true → ∃ ns : List Int, ds = intsD ns
  | [], _ => ⟨[], rfl⟩
  | d :: ds, h => by
    rw [List.all_cons, Bool.and_eq_true] at h
    obtain ⟨ns, hn⟩ := all_ints h.2
    cases d with
    | int i => exact ⟨i :: ns, by rw [hn]; rfl⟩
    | _ => exact absurd h.1 (by simp [inRg])
theorem cut_from1 (ds : List PyData) : cutD ds (some 1) none = ds.tail := by
  unfold cutD
  have h1 : HT.sIx ds.length 0 (some 1) = min 1 ds.length := HT.sIx_nat ds.length 0 1
  rw [h1, HT.sIx_none]
  cases ds with
  | nil => rfl
  | cons d ds =>
    have h2 : min 1 (d :: ds).length = 1 := by
      rw [List.length_cons]
      omega
    rw [h2]
    show List.take (ds.length + 1 - 1) ds = ds
    rw [Nat.add_sub_cancel, List.take_length]
theorem zipRw : ∀ (ns ms : List Int), zipD (intsD ns) (intsD ms) = rowsD (ns.zip ms)
  | [], ms => by
    cases ms <;> rfl
  | n :: ns, [] => rfl
  | n :: ns, m :: ms => by
    show PyData.tuple [.int n, .int m] :: zipD (intsD ns) (intsD ms) = rowD (n, m) :: rowsD (ns.zip ms)
    rw [zipRw ns ms]
    rfl
theorem ints_tail (ns : List Int) : (intsD ns).tail = intsD ns.tail := by
  cases ns <;> rfl
theorem asc_zip : ∀ (ns : List Int), ((ns.zip ns.tail).map fun x : Int × Int => decide (x.1 < x.2)).all id = ascD (intsD ns)
  | [] => rfl
  | [_] => rfl
  | a :: b :: r => by
    have ih := asc_zip (b :: r)
    show (id (decide (a < b)) && (((b :: r).zip r).map fun x : Int × Int => decide (x.1 < x.2)).all id) = (decide (a < b) && ascD (intsD (b :: r)))
    rw [← ih]
    rfl
abbrev WB := List PyData → Nat → (PyData → Nat → Prop) → Prop
/-- of a draw all is possible -/
def wTake : WB := fun ds f P => ∃ m : Int, (0 < m ∧ m < 1073741824 ∧ 1 ≤ f) ∧ ds = [.int m] ∧ ∀ r : Int, 0 ≤ r → r < m → P (.int r) (f - 1)
theorem wTake_len : ∀ ds f P, wTake ds f P → ds.length = 1 := fun ds f P h => by
  obtain ⟨m, _, rfl, _⟩ := h
  rfl
/-- arguments, draws at most, what comes out -/
def wB {α β : Type} (ok : α → Prop) (args : α → List PyData) (cost : α → Nat) (out : α → β → Prop) (res : β → PyData) : WB := fun ds f P => ∃ a, (ok a ∧ cost a ≤ f) ∧ ds = args a ∧ ∀ b f', out a b → f - cost a ≤ f' → P (res b) f'
theorem wB_len {α β : Type} {ok : α → Prop} {args : α → List PyData} {cost : α → Nat} {out : α → β → Prop} {res : β → PyData} {n : Nat} (h : ∀ a, (args a).length = n) : ∀ ds f P, wB ok args cost out res ds f P → ds.length = n := fun ds f P q => by
  obtain ⟨a, _, e, _⟩ := q
  rw [e, h a]
/-- a drawn rule -/
def wLRule : WB := wB (fun _ : Unit => True) (fun _ => []) (fun _ => 6) (fun _ r => Rule.Ok r) ruleD
/-- days one behind the other, gaps of a size at most -/
def Gaps (g : Int) (ns : List Int) : Prop := ns.Pairwise (· < ·) ∧ ∀ i x y, ns[i]? = some x → ns[i + 1]? = some y → y - x ≤ g
def wLLog : WB := wB (fun a : Int × Rule => (0 ≤ a.1 ∧ a.1 ≤ 80) ∧ a.2.Ok) (fun a => [.int a.1, ruleD a.2]) (fun _ => 500) (fun a ns => Log a.1.toNat ns ∧ ∀ x ∈ ns, x ≤ 26000) logD
theorem atD0 (a : PyData) (r : List PyData) : atD (a :: r) 0 = some a := by simp [atD]
theorem atD1 (a b : PyData) (r : List PyData) : atD (a :: b :: r) 1 = some b := by simp [atD]
theorem atD2 (a b c : PyData) (r : List PyData) : atD (a :: b :: c :: r) 2 = some c := by simp [atD]
theorem atD_draw {ds : List PyData} {r : Int} (h0 : 0 ≤ r) (h1 : r < (ds.length : Int)) : ∃ d, atD ds r = some d ∧ d ∈ ds := by
  have hl : r.toNat < ds.length := by omega
  refine ⟨ds[r.toNat], ?_, List.getElem_mem hl⟩
  unfold atD
  rw [if_pos h0]
  exact List.getElem?_eq_getElem hl
def wWell : List PyData → (List PyData → Prop) → Prop := fun ds P => ∃ c t : Int, 0 ≤ t ∧ ds = [.int c, .int t] ∧ ∀ x y : Int, 0 ≤ y → y < 2305843009213693951 → P [.int x, .int y, .int t]
theorem wWell_len : ∀ ds P, wWell ds P → ds.length = 2 := fun ds P h => by
  obtain ⟨c, t, _, rfl, _⟩ := h
  rfl
end Mt
namespace Mt
open PySem Dt
theorem pl_nil (r : Rule) (u : Int) : pl r [] u = ([], u) := rfl
theorem pl_cons (r : Rule) (d : Int) (ds : List Int) (u : Int) : pl r (d :: ds) u = if u ≤ d then ((d, u) :: (pl r ds (nxt r u d)).1, (pl r ds (nxt r u d)).2) else pl r ds u := rfl
theorem pl_append (r : Rule) : ∀ (xs ys : List Int) (u : Int), pl r (xs ++ ys) u = ((pl r xs u).1 ++ (pl r ys (pl r xs u).2).1, (pl r ys (pl r xs u).2).2)
  | [], ys, u => by simp [pl]
  | x :: xs, ys, u => by
    rw [List.cons_append, pl_cons, pl_cons]
    split
    · rw [pl_append r xs ys]
      rfl
    · rw [pl_append r xs ys]
theorem done_append (r : Rule) (xs ys : List Int) : done r (xs ++ ys) = done r xs ++ (pl r ys (due r xs)).1.map Prod.fst := by
  unfold done rows due
  rw [pl_append, List.map_append]
theorem due_append (r : Rule) (xs ys : List Int) : due r (xs ++ ys) = (pl r ys (due r xs)).2 := by
  unfold due
  rw [pl_append]
theorem done_snoc (r : Rule) (xs : List Int) (d : Int) : done r (xs ++ [d]) = if due r xs ≤ d then done r xs ++ [d] else done r xs := by
  rw [done_append, pl_cons]
  split
  · simp [pl]
  · simp [pl]
theorem due_snoc (r : Rule) (xs : List Int) (d : Int) : due r (xs ++ [d]) = if due r xs ≤ d then nxt r (due r xs) d else due r xs := by
  rw [due_append, pl_cons]
  split
  · simp [pl]
  · simp [pl]
theorem done_sub (r : Rule) (ns : List Int) : (done r ns).Sublist ns := by
  have h : ∀ (ns : List Int) (u : Int), ((pl r ns u).1.map Prod.fst).Sublist ns := by
    intro ns
    induction ns with
    | nil =>
      intro u
      exact List.Sublist.refl _
    | cons d ds ih =>
      intro u
      rw [pl_cons]
      split
      · exact (ih _).cons₂ d
      · exact (ih _).cons d
  exact h ns r.st
theorem pl_sub (r : Rule) : ∀ (ns : List Int) (u : Int), ((pl r ns u).1.map Prod.fst).Sublist ns
  | [], u => List.Sublist.refl _
  | d :: ds, u => by
    rw [pl_cons]
    split
    · exact (pl_sub r ds _).cons₂ d
    · exact (pl_sub r ds _).cons d
theorem done_len (r : Rule) (ns : List Int) : (done r ns).length ≤ ns.length := (done_sub r ns).length_le
theorem done_ge (r : Rule) : ∀ (ns : List Int) (u : Int), (∀ x ∈ (pl r ns u).1, x.2 ≤ x.1)
  | [], u => fun x hx => by cases hx
  | d :: ds, u => by
    rw [pl_cons]
    split
    · intro x hx
      rcases List.mem_cons.mp hx with rfl | hx
      · assumption
      · exact done_ge r ds _ x hx
    · exact done_ge r ds u
/-- far enough apart, from u on -/
def Sp (e : Int) : Int → List Int → Prop
  | _, [] => True
  | u, x :: xs => u ≤ x ∧ Sp e (x + e) xs
theorem Sp.low {e : Int} : ∀ {u u' : Int} {xs : List Int}, u ≤ u' → Sp e u' xs → Sp e u xs
  | _, _, [], _, _ => trivial
  | _, _, _ :: _, h, q => ⟨Int.le_trans h q.1, q.2⟩
theorem Sp.ge {e : Int} (he : 0 ≤ e) : ∀ {u : Int} {xs : List Int}, Sp e u xs → ∀ x ∈ xs, u ≤ x
  | _, [], _, _, hx => by cases hx
  | u, y :: ys, h, x, hx => by
    rcases List.mem_cons.mp hx with rfl | hx
    · exact h.1
    · have := Sp.ge he h.2 x hx
      have := h.1
      omega
theorem Sp.snoc {e : Int} : ∀ {u : Int} {xs : List Int} {d : Int}, Sp e u xs → (xs = [] → u ≤ d) → (∀ l, xs.getLast? = some l → l + e ≤ d) → Sp e u (xs ++ [d])
  | u, [], d, _, h0, _ => ⟨h0 rfl, trivial⟩
  | u, x :: xs, d, h, _, hl => by
    refine ⟨h.1, Sp.snoc h.2 (fun e' => ?_) (fun l hl' => hl l ?_)⟩
    · subst e'
      exact hl x rfl
    · cases xs with
      | nil => cases hl'
      | cons y ys =>
        rw [List.getLast?_cons_cons]
        exact hl'
/-- "after": what is played is spaced -/
theorem after_sp (r : Rule) (hk : r.kd = .after) : ∀ (ns : List Int) (u : Int), Sp r.ev u ((pl r ns u).1.map Prod.fst)
  | [], u => trivial
  | d :: ds, u => by
    rw [pl_cons]
    split
    · rename_i h
      have e : nxt r u d = d + r.ev := by
        unfold nxt
        rw [hk]
      rw [e]
      exact ⟨h, after_sp r hk ds _⟩
    · exact after_sp r hk ds u
/-- .. and no choice has more -/
theorem after_most (r : Rule) (hk : r.kd = .after) (he : 1 ≤ r.ev) : ∀ (ns : List Int) (u : Int) (c : List Int), ns.Pairwise (· < ·) → c.Sublist ns → Sp r.ev u c → c.length ≤ (pl r ns u).1.length
  | [], u, c, _, hs, _ => by
    rw [List.sublist_nil.mp hs]
    exact Nat.le_refl _
  | d :: ds, u, c, hp, hs, hc => by
    have hp' := List.Pairwise.of_cons hp
    rw [pl_cons]
    split
    · rename_i h
      have e : nxt r u d = d + r.ev := by
        unfold nxt
        rw [hk]
      rw [e, List.length_cons]
      cases hs with
      | cons _ hs =>
        cases c with
        | nil => simp
        | cons x xs =>
          have hx : d < x := List.rel_of_pairwise_cons hp (hs.subset List.mem_cons_self)
          have := after_most r hk he ds (d + r.ev) xs hp' (List.sublist_of_cons_sublist hs) (hc.2.low (by omega))
          rw [List.length_cons]
          omega
      | cons_cons _ hs =>
        have := after_most r hk he ds (d + r.ev) _ hp' hs hc.2
        rw [List.length_cons]
        omega
    · rename_i h
      cases hs with
      | cons _ hs => exact after_most r hk he ds u c hp' hs hc
      | cons_cons _ hs => exact absurd hc.1 h
/-- data that lies flat enough -/
def Sh (n : Nat) (d : PyData) : Prop := d.canLay0 = true ∧ d.depth ≤ n
theorem sh_int (n : Nat) (i : Int) : Sh n (.int i) := ⟨by simp [PyData.canLay0], by simp [PyData.depth]⟩
theorem sh_bool (n : Nat) (i : Bool) : Sh n (.bool i) := ⟨by simp [PyData.canLay0], by simp [PyData.depth]⟩
theorem sh_none (n : Nat) : Sh n .none := ⟨by simp [PyData.canLay0], by simp [PyData.depth]⟩
theorem sh_all {n : Nat} : ∀ {ds : List PyData}, (∀ d ∈ ds, Sh n d) → PyData.canLayAll0 ds = true ∧ PyData.depthAll ds ≤ n
  | [], _ => ⟨by simp [PyData.canLayAll0], by simp [PyData.depthAll]⟩
  | d :: ds, h => by
    obtain ⟨h1, h2⟩ := sh_all fun x hx => h x (List.mem_cons_of_mem d hx)
    obtain ⟨h3, h4⟩ := h d List.mem_cons_self
    refine ⟨by simp [PyData.canLayAll0, h1, h3], ?_⟩
    simp only [PyData.depthAll]
    omega
theorem sh_list {n : Nat} {ds : List PyData} (h : ∀ d ∈ ds, Sh n d) : Sh (n + 1) (.list ds) := by
  obtain ⟨h1, h2⟩ := sh_all h
  exact ⟨by simp [PyData.canLay0, h1], by simp only [PyData.depth]; omega⟩
theorem sh_tup {n : Nat} {ds : List PyData} (h : ∀ d ∈ ds, Sh n d) : Sh (n + 1) (.tuple ds) := by
  obtain ⟨h1, h2⟩ := sh_all h
  exact ⟨by simp [PyData.canLay0, h1], by simp only [PyData.depth]; omega⟩
theorem sh_ints (ns : List Int) : ∀ d ∈ intsD ns, Sh 0 d := fun d hd => by
  obtain ⟨x, _, rfl⟩ := List.mem_map.mp hd
  exact sh_int 0 x
theorem Sh.ok {n : Nat} {d : PyData} (h : Sh n d) (hn : n ≤ 64) : SeqAt.shaped d = true := by
  unfold SeqAt.shaped
  rw [h.1, decide_eq_true (Nat.le_trans h.2 hn)]
  rfl
theorem shL (ns : List Int) : SeqAt.shaped (.list (intsD ns)) = true := (sh_list (sh_ints ns)).ok (by decide)
theorem shT (ns : List Int) : SeqAt.shaped (.tuple (intsD ns)) = true := (sh_tup (sh_ints ns)).ok (by decide)
theorem eqv_ints : ∀ (a b : List Int), PyData.eqvAll (intsD a) (intsD b) = decide (a = b)
  | [], [] => by simp [intsD, PyData.eqvAll]
  | [], y :: ys => by simp [intsD, PyData.eqvAll]
  | x :: xs, [] => by simp [intsD, PyData.eqvAll]
  | x :: xs, y :: ys => by
    have ih := eqv_ints xs ys
    unfold intsD at ih ⊢
    simp only [List.map_cons, PyData.eqvAll, PyData.eqv, ih, List.cons.injEq]
    by_cases h : x = y
    · simp [h]
    · simp [h]
theorem eqvL (a b : List Int) : PyData.eqv (.list (intsD a)) (.list (intsD b)) = decide (a = b) := by
  simp only [PyData.eqv, eqv_ints]
theorem eqvT (a b : List Int) : PyData.eqv (.tuple (intsD a)) (.tuple (intsD b)) = decide (a = b) := by
  simp only [PyData.eqv, eqv_ints]
theorem atD_last (ns : List Int) : atD (intsD ns) (-1) = (ns.getLast?).map PyData.int := by
  cases ns with
  | nil => rfl
  | cons x xs =>
    unfold atD
    have hl : (intsD (x :: xs)).length = xs.length + 1 := by
      unfold intsD
      rw [List.length_map, List.length_cons]
    rw [if_neg (by decide), hl, if_pos (by omega)]
    rw [show (((xs.length + 1 : Nat) : Int) + -1).toNat = xs.length by omega]
    unfold intsD
    rw [List.getElem?_map, List.getLast?_eq_getElem?]
    rfl
theorem noL_rep (n : Nat) : NoL (List.replicate n SV.u) := fun i s e => by
  rw [List.getElem?_replicate] at e
  split at e
  · cases e
    exact ⟨fun _ h => (by cases h), fun _ h => (by cases h)⟩
  · cases e
theorem ints_app (a b : List Int) : intsD a ++ intsD b = intsD (a ++ b) := by
  unfold intsD
  rw [List.map_append]
theorem ints_len (a : List Int) : (intsD a).length = a.length := List.length_map _
theorem keep_u {jb : Nat} {ρ ρ' : Rho} (h : ∀ s ∈ ρ, s = SV.u) (l : ρ'.length = ρ.length) : Keep jb ρ ρ' := ⟨l, fun i d _ e => by
  have := h _ (List.mem_of_getElem? e)
  cases this⟩
theorem Log.mono {a b : Nat} {ns : List Int} (h : Log a ns) (l : a ≤ b) : Log b ns := ⟨h.1, Nat.le_trans h.2.1 l, h.2.2⟩
theorem rule_eq (r : Rule) : ruleD r = .tuple [.str r.kd.s, .int r.ev, .int r.st] := rfl
theorem filter_ff {α : Type} (l : List α) : l.filter (fun _ => false) = [] := by
  induction l with
  | nil => rfl
  | cons x xs ih => exact ih
theorem m11 : (0 : Int) ≤ 11 ∧ (11 : Int) ≤ 80 := by decide
theorem m80 : (0 : Int) ≤ 80 ∧ (80 : Int) ≤ 80 := by decide
end Mt
namespace Mt
open PySem Dt
def ln (r : Rule) (ns : List Int) (u : Int) : Nat := (pl r ns u).1.length
theorem ln_nil (r : Rule) (u : Int) : ln r [] u = 0 := rfl
theorem ln_yes (r : Rule) {d u : Int} (ds : List Int) (h : u ≤ d) : ln r (d :: ds) u = ln r ds (nxt r u d) + 1 := by
  unfold ln
  rw [pl_cons, if_pos h, List.length_cons]
theorem ln_no (r : Rule) {d u : Int} (ds : List Int) (h : ¬ u ≤ d) : ln r (d :: ds) u = ln r ds u := by
  unfold ln
  rw [pl_cons, if_neg h]
theorem ln_le (r : Rule) (ns : List Int) (u : Int) : ln r ns u ≤ ns.length := pl_len r ns u
theorem done_ln (r : Rule) (ns : List Int) : (done r ns).length = ln r ns r.st := List.length_map _
/-- due days of "fixed" stand on the grid -/
def On (r : Rule) (u : Int) : Prop := r.kd = .fixed → r.ev ∣ u - r.st
theorem on_st (r : Rule) : On r r.st := fun _ => by
  rw [Int.sub_self]
  exact ⟨0, by rw [Int.mul_zero]⟩
section
variable {r : Rule} {u d x : Int}
theorem grid_eq (h : r.kd = .fixed) : nxt r u d = r.st + r.ev * ((d - r.st) / r.ev + 1) := by
  have h1 := Int.emod_add_mul_ediv (d - r.st) r.ev
  unfold nxt
  rw [h, Int.mul_add, Int.mul_one]
  simp only []
  omega
theorem nxt_hi (he : 1 ≤ r.ev) (h : u ≤ d) : nxt r u d ≤ d + r.ev := by
  unfold nxt
  split
  · omega
  · omega
  · have := Int.emod_nonneg (d - r.st) (show r.ev ≠ 0 by omega)
    omega
theorem nxt_gt (he : 1 ≤ r.ev) (hk : r.kd ≠ .pile) : d < nxt r u d := by
  unfold nxt
  split
  · omega
  · rename_i h
    exact absurd h hk
  · have := Int.emod_lt_of_pos (d - r.st) (show 0 < r.ev by omega)
    omega
theorem nxt_lo (he : 1 ≤ r.ev) (h : u ≤ d) (o : On r u) : u + r.ev ≤ nxt r u d := by
  cases hk : r.kd with
  | after =>
    unfold nxt
    rw [hk]
    simp only []
    omega
  | pile =>
    unfold nxt
    rw [hk]
    simp only []
    omega
  | fixed =>
    rw [grid_eq hk]
    obtain ⟨k, e⟩ := o hk
    have h1 : k ≤ (d - r.st) / r.ev := (Int.le_ediv_iff_mul_le (by omega)).mpr (by rw [Int.mul_comm, ← e]; omega)
    have h2 := Int.mul_le_mul_of_nonneg_left (show k + 1 ≤ (d - r.st) / r.ev + 1 by omega) (show 0 ≤ r.ev by omega)
    rw [Int.mul_add r.ev k 1, Int.mul_one, ← e] at h2
    omega
theorem nxt_on (o : On r u) : On r (nxt r u d) := fun hk => by
  rw [grid_eq hk]
  exact ⟨(d - r.st) / r.ev + 1, by omega⟩
/-- the next grid day is not behind any later one -/
theorem nxt_grid (he : 1 ≤ r.ev) (hk : r.kd = .fixed) (hx : r.ev ∣ x - r.st) (h : d < x) : nxt r u d ≤ x := by
  rw [grid_eq hk]
  obtain ⟨k, e⟩ := hx
  have h1 : (d - r.st) / r.ev < k := Int.ediv_lt_of_lt_mul (by omega) (by rw [Int.mul_comm, ← e]; omega)
  have h2 := Int.mul_le_mul_of_nonneg_left (show (d - r.st) / r.ev + 1 ≤ k by omega) (show 0 ≤ r.ev by omega)
  rw [← e] at h2
  omega
end
/-- done on each day that is not ahead of the due day -/
theorem all_done (r : Rule) (h1 : r.ev = 1) : ∀ (ns : List Int) (u : Int), ns.Pairwise (· < ·) → (∀ x ∈ ns, u ≤ x) → ln r ns u = ns.length
  | [], _, _, _ => rfl
  | d :: ds, u, hp, hu => by
    have hd := hu d List.mem_cons_self
    rw [ln_yes r ds hd, List.length_cons, all_done r h1 ds _ (List.Pairwise.of_cons hp) (fun x hx => ?_)]
    have h2 : d < x := List.rel_of_pairwise_cons hp hx
    have h3 := nxt_hi (r := r) (by omega) hd
    omega
/-- the table of the document -/
def Bounded (A B : Rule) : Prop := B.ev = 1 ∨ ((A.kd = .after ∨ B.kd = .pile) ∧ B.ev ≤ A.ev) ∨ (A.kd = .fixed ∧ B.kd = .fixed ∧ B.ev ∣ A.ev ∧ B.ev ∣ A.st - B.st)
theorem bnd (A B : Rule) (ea : 1 ≤ A.ev) (eb : 1 ≤ B.ev) (h : Bounded A B) : ∀ (ns : List Int) (a b : Int) (c : Nat), ns.Pairwise (· < ·) → On A a → On B b → b ≤ a + c * A.ev → ln A ns a ≤ ln B ns b + c
  | [], a, b, c, _, _, _, _ => by
    rw [ln_nil, ln_nil]
    omega
  | d :: ds, a, b, c, hp, oa, ob, hc => by
    have hp' := List.Pairwise.of_cons hp
    have hlt : ∀ x ∈ ds, d < x := fun x hx => List.rel_of_pairwise_cons hp hx
    by_cases ha : a ≤ d
    · rw [ln_yes A ds ha]
      have lo := nxt_lo ea ha oa
      have oa' := nxt_on (d := d) oa
      by_cases hb : b ≤ d
      · rw [ln_yes B ds hb]
        have ob' := nxt_on (d := d) ob
        rcases h with h | ⟨h, hm⟩ | ⟨k1, k2, h1, h2⟩
        · have h3 := nxt_hi eb hb
          have h4 := all_done B h ds (nxt B b d) hp' (fun x hx => by have := hlt x hx; omega)
          have h5 := ln_le A ds (nxt A a d)
          omega
        · rcases h with h | h
          · have h3 := nxt_hi eb hb
            have h4 : nxt A a d = d + A.ev := by
              unfold nxt
              rw [h]
            have := bnd A B ea eb (.inr (.inl ⟨.inl h, hm⟩)) ds (nxt A a d) (nxt B b d) 0 hp' oa' ob' (by rw [h4]; omega)
            omega
          · have h4 : nxt B b d = b + B.ev := by
              unfold nxt
              rw [h]
            have := bnd A B ea eb (.inr (.inl ⟨.inr h, hm⟩)) ds (nxt A a d) (nxt B b d) c hp' oa' ob' (by rw [h4]; omega)
            omega
        · have h3 := nxt_gt (u := a) (d := d) ea (by rw [k1]; decide)
          have h4 : B.ev ∣ nxt A a d - B.st := by
            have := Int.dvd_add (Int.dvd_trans h1 (oa' k1)) h2
            rwa [show nxt A a d - A.st + (A.st - B.st) = nxt A a d - B.st by omega] at this
          have h5 := nxt_grid (u := b) eb k2 h4 h3
          have := bnd A B ea eb (.inr (.inr ⟨k1, k2, h1, h2⟩)) ds (nxt A a d) (nxt B b d) 0 hp' oa' ob' (by omega)
          omega
      · rw [ln_no B ds hb]
        cases c with
        | zero => omega
        | succ c =>
          have e : ((c + 1 : Nat) : Int) * A.ev = (c : Int) * A.ev + A.ev := by
            rw [Int.natCast_add, Int.add_mul]
            simp
          have := bnd A B ea eb h ds (nxt A a d) b c hp' oa' ob (by omega)
          omega
    · rw [ln_no A ds ha]
      by_cases hb : b ≤ d
      · rw [ln_yes B ds hb]
        have ob' := nxt_on (d := d) ob
        rcases h with h | ⟨h, hm⟩ | ⟨k1, k2, h1, h2⟩
        · have h3 := nxt_hi eb hb
          have := bnd A B ea eb (.inl h) ds a (nxt B b d) 0 hp' oa ob' (by omega)
          omega
        · have h3 := nxt_hi eb hb
          have := bnd A B ea eb (.inr (.inl ⟨h, hm⟩)) ds a (nxt B b d) 1 hp' oa ob' (by omega)
          omega
        · have h4 : B.ev ∣ a - B.st := by
            have := Int.dvd_add (Int.dvd_trans h1 (oa k1)) h2
            rwa [show a - A.st + (A.st - B.st) = a - B.st by omega] at this
          have h5 := nxt_grid (u := b) eb k2 h4 (show d < a by omega)
          have := bnd A B ea eb (.inr (.inr ⟨k1, k2, h1, h2⟩)) ds a (nxt B b d) 0 hp' oa ob' (by omega)
          omega
      · rw [ln_no B ds hb]
        exact bnd A B ea eb h ds a b c hp' oa ob hc
/-- "fixed" at most twice as often as "after" -/
theorem twice (F A : Rule) (kf : F.kd = .fixed) (ka : A.kd = .after) (e : A.ev = F.ev) (he : 1 ≤ F.ev) : ∀ (ns : List Int) (f a : Int), On F f → (a ≤ f → ln F ns f ≤ 2 * ln A ns a) ∧ (a ≤ f + F.ev → ln F ns f ≤ 2 * ln A ns a + 1)
  | [], f, a, _ => by
    rw [ln_nil, ln_nil]
    omega
  | d :: ds, f, a, o => by
    have o' := nxt_on (d := d) o
    by_cases hf : f ≤ d
    · rw [ln_yes F ds hf]
      have lo := nxt_lo he hf o
      have gt := nxt_gt (u := f) (d := d) he (by rw [kf]; decide)
      by_cases ha : a ≤ d
      · rw [ln_yes A ds ha]
        have h4 : nxt A a d = d + A.ev := by
          unfold nxt
          rw [ka]
        obtain ⟨i1, i2⟩ := twice F A kf ka e he ds (nxt F f d) (nxt A a d) o'
        have := i2 (by omega)
        omega
      · rw [ln_no A ds ha]
        obtain ⟨i1, i2⟩ := twice F A kf ka e he ds (nxt F f d) a o'
        refine ⟨fun h => by omega, fun h => ?_⟩
        have := i1 (by omega)
        omega
    · rw [ln_no F ds hf]
      by_cases ha : a ≤ d
      · rw [ln_yes A ds ha]
        have h4 : nxt A a d = d + A.ev := by
          unfold nxt
          rw [ka]
        obtain ⟨i1, i2⟩ := twice F A kf ka e he ds f (nxt A a d) o
        have := i2 (by omega)
        omega
      · rw [ln_no A ds ha]
        exact twice F A kf ka e he ds f a o
/-- the days up to a day -/
def upto (d : Int) (ns : List Int) : List Int := ns.filter fun x => decide (x ≤ d)
theorem upto_none {d : Int} {ns : List Int} (h : ∀ x ∈ ns, d < x) : upto d ns = [] := by
  unfold upto
  rw [List.filter_eq_nil_iff]
  intro x hx q
  have := h x hx
  have := of_decide_eq_true q
  omega
theorem pl_upto (r : Rule) (d : Int) : ∀ (ns : List Int) (u : Int), ns.Pairwise (· < ·) → upto d ((pl r ns u).1.map Prod.fst) = (pl r (upto d ns) u).1.map Prod.fst
  | [], u, _ => rfl
  | x :: xs, u, hp => by
    have hp' := List.Pairwise.of_cons hp
    by_cases hx : x ≤ d
    · have e : upto d (x :: xs) = x :: upto d xs := by
        unfold upto
        rw [List.filter_cons_of_pos (by exact decide_eq_true hx)]
      rw [e, pl_cons, pl_cons]
      split
      · rw [List.map_cons, List.map_cons, ← pl_upto r d xs _ hp']
        unfold upto
        rw [List.filter_cons_of_pos (by exact decide_eq_true hx)]
      · exact pl_upto r d xs u hp'
    · have hall : ∀ y ∈ x :: xs, d < y := fun y hy => by
        rcases List.mem_cons.mp hy with rfl | hy
        · omega
        · have := List.rel_of_pairwise_cons hp hy
          omega
      rw [upto_none hall]
      have hs := pl_sub r (x :: xs) u
      rw [upto_none (fun y hy => hall y (hs.subset hy))]
      rfl
theorem done_upto (r : Rule) (d : Int) {ns : List Int} (hp : ns.Pairwise (· < ·)) : upto d (done r ns) = done r (upto d ns) := pl_upto r d ns r.st hp
theorem upto_pw {d : Int} {ns : List Int} (hp : ns.Pairwise (· < ·)) : (upto d ns).Pairwise (· < ·) := hp.filter _
end Mt
namespace Mt
open PySem Dt
def wTotal : RCD := wF (fun a : Rule × List (List Int) => a.1.Ok ∧ (∀ l ∈ a.2, Log 80 l) ∧ a.2.length ≤ 1000) (fun a => [ruleD a.1, .tuple (a.2.map logD)]) (fun a => .int ((a.2.map fun l => ((done a.1 l).length : Int)).sum))
theorem wTotal_len : ∀ ds P, wTotal ds P → ∃ a rs, ds = [a, .tuple rs] ∧ rs.length ≤ 16777216 := fun ds P q => by
  obtain ⟨a, ok, e, _⟩ := q
  exact ⟨_, _, e, by rw [List.length_map]; have := ok.2.2; omega⟩
def alikeB (a b : Rule) : Bool := decide (a = b) || (decide (a.ev = 1) && (decide (b.ev = 1) && decide (a.st = b.st)))
def wAlike : RCD := wF (fun a : Rule × Rule => a.1.Ok ∧ a.2.Ok) (fun a => [ruleD a.1, ruleD a.2]) (fun a => .bool (alikeB a.1 a.2))
def wUpto : RCD := wF (fun a : List Int × Int => a.1.length ≤ 10000) (fun a => [.list (intsD a.1), .int a.2]) (fun a => .int ((upto a.2 a.1).length : Int))
theorem kd_inj : ∀ {a b : Kd}, a.s = b.s → a = b := by
  intro a b
  cases a <;> cases b <;> first
    | exact fun _ => rfl
    | exact fun h => absurd h (by decide +kernel)
theorem eqv_str (a b : Str) : PyData.eqv (.str a) (.str b) = decide (a = b) := by
  unfold PyData.eqv
  by_cases h : a = b <;> simp [h]
theorem eqv_int (a b : Int) : PyData.eqv (.int a) (.int b) = decide (a = b) := by
  unfold PyData.eqv
  by_cases h : a = b <;> simp [h]
theorem eqv_rule (a b : Rule) : PyData.eqv (ruleD a) (ruleD b) = decide (a = b) := by
  unfold ruleD
  rw [PyData.eqv, PyData.eqvAll, PyData.eqvAll, PyData.eqvAll, PyData.eqvAll, eqv_str, eqv_int, eqv_int]
  obtain ⟨k, e, s⟩ := a
  obtain ⟨k', e', s'⟩ := b
  by_cases h : (⟨k, e, s⟩ : Rule) = ⟨k', e', s'⟩
  · rw [decide_eq_true h]
    cases h
    simp
  · rw [decide_eq_false h]
    by_cases h1 : k.s = k'.s
    · have := kd_inj h1
      subst this
      by_cases h2 : e = e'
      · subst h2
        have h3 : ¬ s = s' := fun z => h (by rw [z])
        simp [h3]
      · simp [h2]
    · simp [h1]
theorem sh_kd (n : Nat) (k : Kd) : Sh n (.str k.s) := ⟨by cases k <;> decide +kernel, by simp [PyData.depth]⟩
theorem shR (a : Rule) : SeqAt.shaped (ruleD a) = true := (sh_tup (n := 0) (fun d hd => by
  simp only [List.mem_cons, List.not_mem_nil, or_false] at hd
  rcases hd with rfl | rfl | rfl
  · exact sh_kd 0 _
  · exact sh_int 0 _
  · exact sh_int 0 _)).ok (by decide)
theorem alike_one (k : Kd) (s : Int) : alikeB ⟨k, 1, s⟩ ⟨.after, 1, s⟩ = true := by
  unfold alikeB
  simp
/-- the three kinds, up to a day -/
theorem three (e s : Int) (he : 1 ≤ e) {ns : List Int} (hp : ns.Pairwise (· < ·)) (m : Int) :
    ((upto m (done ⟨.after, e, s⟩ ns)).length : Int) ≤ (upto m (done ⟨.fixed, e, s⟩ ns)).length ∧ ((upto m (done ⟨.fixed, e, s⟩ ns)).length : Int) ≤ (upto m (done ⟨.pile, e, s⟩ ns)).length ∧ ((upto m (done ⟨.fixed, e, s⟩ ns)).length : Int) ≤ 2 * (upto m (done ⟨.after, e, s⟩ ns)).length := by
  rw [done_upto _ m hp, done_upto _ m hp, done_upto _ m hp, done_ln, done_ln, done_ln]
  have hp' := upto_pw (d := m) hp
  have h1 := bnd ⟨.after, e, s⟩ ⟨.fixed, e, s⟩ he he (.inr (.inl ⟨.inl rfl, Int.le_refl _⟩)) (upto m ns) s s 0 hp' (fun h => by cases h) (on_st ⟨.fixed, e, s⟩) (by omega)
  have h2 := bnd ⟨.fixed, e, s⟩ ⟨.pile, e, s⟩ he he (.inr (.inl ⟨.inr rfl, Int.le_refl _⟩)) (upto m ns) s s 0 hp' (on_st ⟨.fixed, e, s⟩) (fun h => by cases h) (by omega)
  have h3 := (twice ⟨.fixed, e, s⟩ ⟨.after, e, s⟩ rfl rfl rfl he (upto m ns) s s (on_st ⟨.fixed, e, s⟩)).1 (Int.le_refl _)
  simp only []
  omega
/-- each day -/
theorem pl_each (r : Rule) (h1 : r.ev = 1) : ∀ (ns : List Int) (u : Int), ns.Pairwise (· < ·) → (∀ x ∈ ns, u ≤ x) → (pl r ns u).1.map Prod.fst = ns
  | [], _, _, _ => rfl
  | d :: ds, u, hp, hu => by
    have hd := hu d List.mem_cons_self
    rw [pl_cons, if_pos hd, List.map_cons, pl_each r h1 ds _ (List.Pairwise.of_cons hp) (fun x hx => ?_)]
    have h2 : d < x := List.rel_of_pairwise_cons hp hx
    have h3 := nxt_hi (r := r) (by omega) hd
    omega
theorem pl_each_from (r : Rule) (h1 : r.ev = 1) : ∀ (ns : List Int) (u : Int), ns.Pairwise (· < ·) → (pl r ns u).1.map Prod.fst = ns.filter fun x => decide (u ≤ x)
  | [], _, _ => rfl
  | d :: ds, u, hp => by
    have hp' := List.Pairwise.of_cons hp
    by_cases hd : u ≤ d
    · have hall : ∀ x ∈ d :: ds, u ≤ x := fun x hx => by
        rcases List.mem_cons.mp hx with rfl | hx
        · exact hd
        · have := List.rel_of_pairwise_cons hp hx
          omega
      rw [pl_each r h1 _ u hp hall, List.filter_eq_self.mpr fun x hx => decide_eq_true (hall x hx)]
    · rw [pl_cons, if_neg hd, List.filter_cons_of_neg (by simpa using hd), pl_each_from r h1 ds u hp']
theorem done_each (k k' : Kd) (s : Int) {ns : List Int} (hp : ns.Pairwise (· < ·)) : done ⟨k, 1, s⟩ ns = done ⟨k', 1, s⟩ ns := (pl_each_from ⟨k, 1, s⟩ rfl ns s hp).trans (pl_each_from ⟨k', 1, s⟩ rfl ns s hp).symm
/-- what the three kinds do -/
def rw3 (e s : Int) (ns : List Int) : List PyData := [Kd.after, .fixed, .pile].map fun kd => .list (intsD (done ⟨kd, e, s⟩ ns))
theorem rows3_eq (e s : Int) (ns : List Int) : rw3 e s ns = [.list (intsD (done ⟨.after, e, s⟩ ns)), .list (intsD (done ⟨.fixed, e, s⟩ ns)), .list (intsD (done ⟨.pile, e, s⟩ ns))] := rfl
/-- days in pairs -/
def prs (e s : Int) : Nat → List Int
  | 0 => []
  | j + 1 => prs e s j ++ [s + e * (2 * (j : Int) + 1) - 1, s + e * (2 * (j : Int) + 1)]
theorem prs_len (e s : Int) : ∀ j, (prs e s j).length = 2 * j
  | 0 => rfl
  | j + 1 => by
    unfold prs
    rw [List.length_append, prs_len e s j]
    rfl
theorem prs_lt (e s : Int) (he : 2 ≤ e) : ∀ j, ∀ x ∈ prs e s j, s ≤ x ∧ x < s + e * (2 * (j : Int))
  | 0, x, hx => by cases hx
  | j + 1, x, hx => by
    have e1 : e * (2 * ((j + 1 : Nat) : Int)) = e * (2 * (j : Int)) + 2 * e := by
      rw [Int.natCast_add, Int.mul_add, Int.mul_add]
      omega
    have e2 : e * (2 * (j : Int) + 1) = e * (2 * (j : Int)) + e := by
      rw [Int.mul_add, Int.mul_one]
    have e3 : 0 ≤ e * (2 * (j : Int)) := Int.mul_nonneg (by omega) (by omega)
    unfold prs at hx
    rw [e1]
    rcases List.mem_append.mp hx with hx | hx
    · have := prs_lt e s he j x hx
      omega
    · rw [e2] at hx
      simp only [List.mem_cons, List.not_mem_nil, or_false] at hx
      rcases hx with rfl | rfl <;> omega
theorem prs_pw (e s : Int) (he : 2 ≤ e) : ∀ j, (prs e s j).Pairwise (· < ·)
  | 0 => .nil
  | j + 1 => by
    unfold prs
    rw [List.pairwise_append]
    refine ⟨prs_pw e s he j, ?_, fun x hx y hy => ?_⟩
    · simp
      omega
    · have h1 := prs_lt e s he j x hx
      have e2 : e * (2 * (j : Int) + 1) = e * (2 * (j : Int)) + e := by
        rw [Int.mul_add, Int.mul_one]
      rw [e2] at hy
      simp only [List.mem_cons, List.not_mem_nil, or_false] at hy
      rcases hy with rfl | rfl <;> omega
theorem prs_log (e s : Int) (he : 2 ≤ e) (he2 : e ≤ 100) (s0 : 0 ≤ s) (s1 : s ≤ 1000) (j : Nat) (hj : j ≤ 30) : Log 80 (prs e s j) := by
  refine ⟨prs_pw e s he j, by rw [prs_len]; omega, fun x hx => ?_⟩
  have h1 := prs_lt e s he j x hx
  have h2 : e * (2 * (j : Int)) ≤ 100 * 60 := Int.mul_le_mul he2 (by omega) (by omega) (by omega)
  omega
theorem app2 (xs : List Int) (a b : Int) : xs ++ [a, b] = (xs ++ [a]) ++ [b] := by simp
theorem prs_fix (e s : Int) (he : 2 ≤ e) : ∀ j, due ⟨.fixed, e, s⟩ (prs e s j) = s + e * (2 * (j : Int)) ∧ (done ⟨.fixed, e, s⟩ (prs e s j)).length = 2 * j
  | 0 => by
    refine ⟨?_, rfl⟩
    show s = s + e * (2 * 0)
    omega
  | j + 1 => by
    obtain ⟨i1, i2⟩ := prs_fix e s he j
    have e1 : e * (2 * ((j + 1 : Nat) : Int)) = e * (2 * (j : Int)) + 2 * e := by
      rw [Int.natCast_add, Int.mul_add, Int.mul_add]
      omega
    have e2 : e * (2 * (j : Int) + 1) = e * (2 * (j : Int)) + e := by
      rw [Int.mul_add, Int.mul_one]
    unfold prs
    rw [app2, due_snoc, done_snoc, due_snoc, done_snoc, i1, e1, e2]
    have c1 : s + e * (2 * (j : Int)) ≤ s + (e * (2 * (j : Int)) + e) - 1 := by omega
    have c2 : s + (e * (2 * (j : Int)) + e) ≤ s + (e * (2 * (j : Int)) + e) := by omega
    rw [if_pos c1, if_pos c1]
    have n1 : nxt ⟨.fixed, e, s⟩ (s + e * (2 * (j : Int))) (s + (e * (2 * (j : Int)) + e) - 1) = s + (e * (2 * (j : Int)) + e) := by
      unfold nxt
      simp only []
      rw [show s + (e * (2 * (j : Int)) + e) - 1 - s = (e - 1) + e * (2 * (j : Int)) by omega, Int.add_mul_emod_self_left, Int.emod_eq_of_lt (by omega) (by omega)]
      omega
    rw [n1, if_pos c2, if_pos c2]
    refine ⟨?_, by rw [List.length_append, List.length_append, i2]; rfl⟩
    unfold nxt
    simp only []
    rw [show s + (e * (2 * (j : Int)) + e) - s = 0 + e * (2 * (j : Int) + 1) by omega, Int.add_mul_emod_self_left, Int.zero_emod]
    omega
theorem prs_aft (e s : Int) (he : 2 ≤ e) : ∀ j, due ⟨.after, e, s⟩ (prs e s j) ≤ s + e * (2 * (j : Int)) ∧ (done ⟨.after, e, s⟩ (prs e s j)).length = j
  | 0 => by
    refine ⟨?_, rfl⟩
    show s ≤ s + e * (2 * 0)
    omega
  | j + 1 => by
    obtain ⟨i1, i2⟩ := prs_aft e s he j
    have e1 : e * (2 * ((j + 1 : Nat) : Int)) = e * (2 * (j : Int)) + 2 * e := by
      rw [Int.natCast_add, Int.mul_add, Int.mul_add]
      omega
    have e2 : e * (2 * (j : Int) + 1) = e * (2 * (j : Int)) + e := by
      rw [Int.mul_add, Int.mul_one]
    unfold prs
    rw [app2, due_snoc, done_snoc, due_snoc, done_snoc, e1, e2]
    have c1 : due ⟨.after, e, s⟩ (prs e s j) ≤ s + (e * (2 * (j : Int)) + e) - 1 := by omega
    have c2 : ¬ s + (e * (2 * (j : Int)) + e) - 1 + e ≤ s + (e * (2 * (j : Int)) + e) := by omega
    rw [if_pos c1, if_pos c1]
    have n1 : nxt ⟨.after, e, s⟩ (due ⟨.after, e, s⟩ (prs e s j)) (s + (e * (2 * (j : Int)) + e) - 1) = s + (e * (2 * (j : Int)) + e) - 1 + e := rfl
    rw [n1, if_neg c2, if_neg c2]
    exact ⟨by omega, by rw [List.length_append, i2]; rfl⟩
theorem range_step {lo : Int} {n j : Nat} {x : PyData} {xs : List PyData} (h : x :: xs = (rangeD lo n).drop j) : j < n ∧ x = .int (lo + (j : Int)) ∧ xs = (rangeD lo n).drop (j + 1) := by
  have hl : (rangeD lo n).length = n := by
    unfold rangeD
    rw [List.length_map, List.length_range]
  have hj : j < n := by
    have h2 := congrArg List.length h
    rw [List.length_drop, List.length_cons, hl] at h2
    omega
  rw [List.drop_eq_getElem_cons (by rw [hl]; exact hj)] at h
  injection h with h1 h2
  refine ⟨hj, ?_, h2⟩
  rw [h1]
  unfold rangeD
  rw [List.getElem_map, List.getElem_range]
theorem range_end {lo : Int} {n j : Nat} (h : [] = (rangeD lo n).drop j) : n ≤ j := by
  have h2 := congrArg List.length h
  unfold rangeD at h2
  rw [List.length_drop, List.length_map, List.length_range] at h2
  simp at h2
  omega
end Mt
namespace DtS
open PySem PyProof.Rows Srt SrtO
section
variable {prog : Program} {w : World} {A : Around} {E : Value → Shared → Prop} {s : Shared}
theorem collect_tup {l : Addr} {vs : List Value} {o : Obj} {n : Nat} {Q : List Value → Shared → Prop} (ho : s.heap.get? l = some o) (hc : o.cls = .type "tuple") (hd : o.data = .seq vs.toArray n)
    (h : Q vs { s with heap := (s.heap.push (seqObj "list" #[] 0)).update s.heap.objs.size (Obj.mapSeq (· ++ vs.toArray)) }) (hsz : vs.length ≤ sizeLine) :
    wpAny (model prog w) A (collect (.ref l)) Q E s := by
  unfold collect
  refine wpAny_bind (wpAny_runValue (codeAny_builtin entry_proto_collect' ?_))
  show wpAny _ _ (do again (.builtin "list.__iadd__" ⟨[← newList [], .ref l], []⟩)) _ _ s
  refine wpAny_bind (wpAny_newList (wpAny_pure ⟨Code.quiet_builtin _ (by decide +kernel), codeAny_builtin entry_list_iadd' ?_⟩))
  show wpAny _ _ (Builtin.List.listExtendWith (.ref s.heap.objs.size) (.ref l) (.ref s.heap.objs.size)) _ _ { s with heap := s.heap.push (seqObj "list" #[] 0) }
  unfold Builtin.List.listExtendWith
  have ho' : (s.heap.push (seqObj "list" #[] 0)).get? l = some o := Heap.get?_push_of_some _ ho
  refine wpAny_bind (wpAny_typeOf (T := "tuple") ⟨o, ho', hc⟩ ?_)
  have ht : (Value.type "tuple" == Value.type "tuple") = true := by rfl
  rw [if_pos (by rw [ht]; simp)]
  refine wpAny_bind (listItems_at ho' hd ?_)
  refine wpAny_bind (listItems_at (xs := #[]) (n := 0) (Heap.get?_push_size _ rfl) rfl ?_)
  rw [if_neg (by simp)]
  refine wpAny_bind (listUpdate_at (xs := #[]) (n := 0) (Heap.get?_push_size _ rfl) rfl ?_ (Nat.zero_le _) (by show (#[] ++ vs.toArray).size ≤ sizeLine + 1; simp only [Array.size_append, List.size_toArray, List.length_nil]; omega))
  refine wpAny_pure ?_
  show wpAny (model prog w) A (do
      let o ← load s.heap.objs.size
      match o.data with
      | .seq xs _ => pure xs.toList
      | _ => unsupported "internal:collect") Q E { s with heap := (s.heap.push (seqObj "list" #[] 0)).update s.heap.objs.size (Obj.mapSeq (· ++ vs.toArray)) }
  refine wpAny_bind (wpAny_load (get?_update_seq (Heap.get?_push_size _ rfl) _) ?_)
  show wpAny _ _ (pure ((#[] : Array Value) ++ vs.toArray).toList) Q E _
  rw [show ((#[] : Array Value) ++ vs.toArray).toList = vs by simp]
  exact wpAny_pure h
theorem sorted_ordT {l : Addr} {vs : List Value} {o : Obj} {n : Nat} {ltv : Value → Value → Bool} {Q : Value → Shared → Prop} (O : Swo ltv) (ho : s.heap.get? l = some o) (hc : o.cls = .type "tuple") (hd : o.data = .seq vs.toArray n) (hz : vs.length ≤ sizeLine)
    (hS : 2 ≤ vs.length → ∀ (h₁ : Heap) (a : Addr), h₁.get? a = some (seqObj "list" vs.toArray 0) → (∀ b o, s.heap.get? b = some o → b ≠ a ∧ h₁.get? b = some o) → SortableO prog w A.in1.in1 { s with heap := h₁ } a vs ltv)
    (h : ∀ out : List Value, Srtd ltv out → Stb ltv out vs → Q (.ref (s.heap.objs.size + 1)) { s with heap := sortedAll s.heap vs out.toArray }) :
    wpAny (model prog w) A (call (.builtin "sorted") [.ref l]) Q E s := by
  refine Calls.call_function_entry kind_sorted plain_sorted entry_sorted (args_sorted1 _) ?_
  unfold Builtin.«sorted»
  refine wpAny_bind (m := checkCount "sorted" 1 1 _) (wpAny_pure ?_)
  refine wpAny_bind (collect_tup ho hc hd ?_ hz)
  refine wpAny_bind (wpAny_newList ?_ hz)
  have hsz : ((s.heap.push (seqObj "list" #[] 0)).update s.heap.objs.size (Obj.mapSeq (· ++ vs.toArray))).objs.size = s.heap.objs.size + 1 := by
    rw [Heap.size_update, size_push']
  have hoL : (((s.heap.push (seqObj "list" #[] 0)).update s.heap.objs.size (Obj.mapSeq (· ++ vs.toArray))).push (seqObj "list" vs.toArray 0)).get? (s.heap.objs.size + 1) = some (seqObj "list" vs.toArray 0) := by
    rw [← hsz]; exact Heap.get?_push_size _ rfl
  have keep : ∀ b o, s.heap.get? b = some o → b ≠ s.heap.objs.size + 1 ∧ (((s.heap.push (seqObj "list" #[] 0)).update s.heap.objs.size (Obj.mapSeq (· ++ vs.toArray))).push (seqObj "list" vs.toArray 0)).get? b = some o := fun b o q => by
    have hlt : b < s.heap.objs.size := Heap.lt_size q
    refine ⟨Nat.ne_of_lt (Nat.lt_succ_of_lt hlt), Heap.get?_push_of_some _ ?_⟩
    rw [Heap.get?_update_ne _ _ _ _ (Nat.ne_of_lt hlt)]
    exact Heap.get?_push_of_some _ q
  show wpAny _ _ _ _ _ { s with heap := ((s.heap.push (seqObj "list" #[] 0)).update s.heap.objs.size (Obj.mapSeq (· ++ vs.toArray))).push (seqObj "list" vs.toArray 0) }
  rw [hsz]
  refine wpAny_bind (wpAny_holding (wpAny_call_entry slot_list_sort ⟨_, hoL, rfl⟩ entry_list_sort (list_sort_ord O hoL hz (fun h2 => hS h2 _ _ hoL keep) fun out hs hb => ⟨_, rfl, ?_⟩) (args_list_sort _)))
  exact wpAny_pure ⟨_, rfl, h out hs hb⟩
end
end DtS
namespace Dt
open PySem PySem.Spec PyProof.Rows L2
variable [TabG]
section TC
variable [TabC]
/-- sorted(xs), xs a list or a tuple of ints -/
def rSortedIT (K : PySem.W.Frag) : List V → Hp → VK → Prop := fun vs H Q => ∃ (a : Addr) (ns : List Int), vs = [V.ref a] ∧ (SqL K H a (ns.map V.int) ∨ SqT K H a (ns.map V.int)) ∧
  ∀ (ns' : List Int) (p : Addr), ns'.Perm ns → ns'.Pairwise (· ≤ ·) → H p = none → Q (.ref p) (upd H p (.lst (ns'.map V.int)))
section
variable {X : Cx}
theorem cr_sortedIT : CallR X (.builtin "sorted") (rSortedIT X.K) := by
  intro pins s σ H vs us Q I r h
  obtain ⟨a, ns, rfl, hs | hs, q⟩ := h
  · exact cr_sortedI pins s σ H _ us Q I r ⟨a, ns, rfl, hs, q⟩
  · obtain ⟨its, rv, ⟨o, ho, hc, n, hd⟩, hz⟩ := I.tuple hs
    rw [Vals.ref1 r]
    have hi := rv.ints
    refine DtS.sorted_ordT SrtO.swo_int ho hc hd (by rw [← rv.length]; exact hz) (fun h2 h₁ a' _ _ => SrtO.ints_sortable hi h2) fun out h1 h2 => ?_
    obtain ⟨k1, k2, k3⟩ := SrtO.ints_out hi h1 h2
    obtain ⟨ep, he'⟩ := PyProof.Rows.sortedAll_at s.heap its out.toArray
    have hlen : ((out.map SrtO.iv).map V.int).length ≤ sizeLine := by
      rw [List.length_map, k2.length_eq]
      rw [List.length_map] at hz
      exact hz
    exact ⟨.ref _, upd H (s.heap.objs.size + 1) (.lst ((out.map SrtO.iv).map V.int)), I.laid (t' := s.toks) (fun _ _ => PyProof.Rows.sortedAll_old) (Nat.le_succ _) ⟨hlen, out, ep, vals_of_ints k1, he'⟩, rfl, q _ _ k2 k3 (I.hok.fresh (Nat.le_succ _))⟩
end
def rSortedD : List PyData → (List PyData → Prop) → Prop := fun ds P => match ds with
  | [x] => (match itemsOf x with
    | some es => ∃ ns : List Int, es = ns.map PyData.int ∧ ∀ ns' : List Int, ns'.Perm ns → ns'.Pairwise (· ≤ ·) → P (ns'.map PyData.int)
    | none => False)
  | _ => False
section
variable {K : PySem.W.Frag}
theorem sim_sorted : SimCN K (rSortedIT K) rSortedD := fun G H xs ds P gh r q Q k => by
  unfold rSortedD at q
  split at q
  · split at q
    · rename_i x es hx
      obtain ⟨ns, rfl, q⟩ := q
      cases r with
      | cons r1 r2 =>
        cases r2
        obtain ⟨p, ys, rfl, h3, h4⟩ := rp_items gh r1 hx
        have e := h4.ints
        subst e
        refine ⟨p, ns, rfl, h3, fun ns' l hp ho hl => ?_⟩
        exact k l (ns'.map V.int) (ns'.map PyData.int) G _ (Go.grow gh (same_new hl)) hl (same_none gh hl) upd_same (RpA.of_ints ns') (q ns' hp ho)
    · exact q.elim
  · exact q.elim
end
/-- isinstance(x, (T1, T2, ..)) -/
def dIsiT (Ts : List String) (da : DE) : DE := fun ρ f P => da ρ f fun x f1 => P (.bool (Ts.any fun T => isiD T x)) f1
theorem kitAny_of {K : PySem.W.Frag} {n : String} (hn : n ∈ ["NoneType", "bool", "int", "str", "list", "tuple"]) : ∀ {Ts : List String}, (∀ T ∈ Ts, IsiT T) → PySem.W.kitAny K (.type n) (Ts.map Value.type) = some (Ts.any fun T => n == T || (n == "bool" && T == "int"))
  | [], _ => rfl
  | T :: Ts, h => by
    have h1 := kit_ty (K := K) ((h T List.mem_cons_self).k n hn)
    have h2 := kitAny_of (K := K) hn (Ts := Ts) fun t ht => h t (List.mem_cons_of_mem _ ht)
    rw [List.map_cons, List.any_cons]
    refine kitAny_cons h1 (fun e => ?_) (fun e => ?_)
    · rw [e, Bool.false_or]
      exact h2
    · rw [e, Bool.true_or]
def tysA : List String → TA
  | [] => tNil
  | T :: Ts => tCons (tC (.ty T)) (tysA Ts)
theorem tysA_run : ∀ (Ts : List String) (σ : L2.St) (H : Hp) (Q : List V → Hp → Prop), Q (Ts.map V.ty) H → tysA Ts σ H Q
  | [], _, _, _, q => q
  | T :: Ts, σ, H, Q, q => tysA_run Ts σ H (fun xs H2 => Q (V.ty T :: xs) H2) q
theorem paired_ty : ∀ Ts : List String, Paired ClsV (Ts.map V.ty) (Ts.map Value.type)
  | [] => .nil
  | T :: Ts => .cons (.ty T) (paired_ty Ts)
section
variable {X : Cx} {mb : Option Addr} {js : Nat} {pn : Option V} {a : Expr} {es : List Expr} {p pos tpos : Pos}
theorem pa_ty {y : Str} {py : Pos} {T : String} {Ts : List String} (hgT : Gl X y) (hmT : X.mg y = none) (hvT : bootBuiltins y = some (.type T)) (hr : PA X es (tysA Ts)) (hnT : y ≠ "__name__" := by decide) (hdbT : (y == ("__debug__" : Str)) = false := by decide) (he : starEach (.Name y py :: es) X.env = (false, eval (.Name y py) X.env) :: starEach es X.env := by rfl) : PA X (.Name y py :: es) (tysA (T :: Ts)) := pa_cons (pe_bltn hgT hmT hvT rfl hnT hdbT) hr he
theorem xe_isiT {Ts : List String} {ta : TE} {da : DE} {x : Str} {kk : Nat} (ha : XE X mb js pn a ta da) (hes : PA X es (tysA Ts)) (h : ∀ T ∈ Ts, IsiT T) (hl : Ts.length ≤ 100) (hg : Gl X x) (hm : X.mg x = none) (hv : bootBuiltins x = some (.builtin "isinstance")) (hn : x ≠ "__name__" := by decide) (hdb : (x == ("__debug__" : Str)) = false := by decide)
    (he : starEach (a :: [.Tuple es kk tpos]) X.env = (false, eval a X.env) :: starEach [.Tuple es kk tpos] X.env := by rfl) (he2 : starEach (.Tuple es kk tpos :: []) X.env = (false, eval (.Tuple es kk tpos) X.env) :: starEach [] X.env := by rfl) (hpl : (backTo pos (starEach [.Tuple es kk tpos] X.env)).any (·.1) = false := by rfl) :
    XE X mb js pn (.Call (.Name x p) [a, .Tuple es kk tpos] [] pos) (tCB (rIsiT X.K) (tCons ta (tCons (tTup (tysA Ts)) tNil))) (dIsiT Ts da) :=
  ⟨pe_callB call_isiT hg hm hv (pa_cons ha.pe (pa_cons (pe_tup hes) pa_nil he2) he) hn hdb he hpl, fun G H f σ ρ P S q Q k => ha.sm G H f σ ρ _ S q _ fun v d f1 G1 H1 g1 b1 r1 q1 => by
    refine tysA_run Ts _ _ _ ⟨by rw [List.length_map, sizeLine_eq]; omega, fun tp hp => ?_⟩
    have t := tyN_of (g1.gh.trans (same_new (o := .tup (Ts.map V.ty)) hp)) r1
    exact ⟨v, tp, _, _, _, _, rfl, upd_same, paired_ty Ts, t.1, kitAny_of t.2 h, k _ _ f1 G1 _ (g1.trans (Go.grow g1.gh (same_new hp))) (b1.same (same_new hp)) (.bl _) q1⟩⟩
theorem isi_blt : ∀ T ∈ ["bool", "list", "tuple"], IsiT T := fun T h => by
  simp only [List.mem_cons, List.not_mem_nil, or_false] at h
  rcases h with rfl | rfl | rfl
  · exact isi_bool
  · exact isi_list
  · exact isi_tuple
/-- zip of two lists, of two tuples -/
def iZpA (da : DA) : DI := fun ρ f P => da ρ f fun ds f1 => match ds with
  | [.list es, .list fs] => P (zipD es fs) f1
  | [.tuple es, .tuple fs] => P (zipD es fs) f1
  | _ => False
variable {tg b e : Expr} {ta : TA} {da : DA} {n : Nat} {elts : List Expr} {kk : Nat}
theorem xi_zipA (ha : XA X mb js pn [a, b] n ta da) (hg : Gl X "zip") (hm : X.mg "zip" = none) (hs : starEach [a, b] X.env = (false, eval a X.env) :: starEach [b] X.env := by rfl) (hpl : (backTo pos (starEach [b] X.env)).any (·.1) = false := by rfl) :
    XI X mb js pn (.Tuple elts kk tpos) (.Call (.Name "zip" p) [a, b] [] pos) (RZ.iZipA X.K ta) (iZpA da) := ⟨RZ.pi_zipA hg hm ha.pe hs hpl, fun G H f σ ρ P S q R k => ha.sm G H f σ ρ _ S q _ fun vs ds f1 G1 H1 l1 g1 b1 r1 q1 => by
    split at q1
    · cases r1 with
      | cons r1 r2 => cases r2 with
        | cons r2 r3 =>
          cases r3
          cases r1 with
          | lst h1 h2 => cases r2 with
            | lst h3 h4 => exact ⟨_, _, _, _, rfl, .inl ⟨SqL.of (g1.gh _ _ h1), SqL.of (g1.gh _ _ h3), k _ _ f1 G1 H1 g1 b1 (itd_zip (walk_zip rfl) (fun H' s => ⟨SqL.of (s _ _ h1), SqL.of (s _ _ h3)⟩) h2 h4) q1⟩⟩
    · cases r1 with
      | cons r1 r2 => cases r2 with
        | cons r2 r3 =>
          cases r3
          cases r1 with
          | tup h1 h2 => cases r2 with
            | tup h3 h4 => exact ⟨_, _, _, _, rfl, .inr ⟨sqT_mono g1.gh h1, sqT_mono g1.gh h3, k _ _ f1 G1 H1 g1 b1 (itd_zip walk_zipT (fun H' s => ⟨sqT_mono s h1, sqT_mono s h3⟩) h2 h4) q1⟩⟩
    · exact q1.elim⟩
end
end TC
section
variable {P : Program} {w : World} {K : PySem.W.Frag} {mg : Str → Option Value} {base : Heap} {x : Str} {st : Stmt} {f : Addr} {fd : FuncData} {N ps : List Str}
/-- a def of which nothing is asked -/
theorem Fn.none (F : FunD K x x (defArgs st) (defBody st) (defScope st) [] [] f fd) (sc : FnScope N ps (defScope st)) (hm : mg x = some (.ref f)) (hb : Binds K fd ps []) {wd : RCD} (hw : ∀ ds P, wd ds P → False) : Fn P w K mg base x 1 ps (spP K wd) :=
  ⟨f, fd, F.ok sc (fun vs H Q E h => by obtain ⟨_, _, _, _, _, h, _⟩ := h; exact (hw _ _ h).elim) (fun cdv A outer s H vs Q E hr h => by obtain ⟨_, _, _, _, _, h, _⟩ := h; exact (hw _ _ h).elim) (k := 0), hm, F.kp, hb⟩
end
section TC
variable [TabC]
end TC
end Dt
namespace Mt
open PySem Dt
/-- data of at most so many layers -/
def PlN : Nat → PyData → Prop
  | 0, _ => False
  | n + 1, d => isScal d = true ∨ ∃ xs, (d = .list xs ∨ d = .tuple xs) ∧ xs.length < 16777216 ∧ ∀ x ∈ xs, PlN n x
def wSame (n : Nat) : RCD := fun ds P => ∃ d, PlN n d ∧ ds = [d, d] ∧ P (.bool true)
theorem wSame_len {n : Nat} : ∀ ds P, wSame n ds P → ds.length = 2 := fun ds P q => by
  obtain ⟨d, _, e, _⟩ := q
  rw [e]
  rfl
theorem wSame_zero : ∀ ds P, wSame 0 ds P → False := fun ds P q => by
  obtain ⟨d, h, _⟩ := q
  exact h
theorem zip_same : ∀ xs : List PyData, zipD xs xs = xs.map fun x => .tuple [x, x]
  | [] => rfl
  | x :: xs => by
    unfold zipD
    rw [zip_same xs]
    rfl
end Mt
namespace Mt
open PySem Dt
theorem mk_ok {k : Kd} {e s : Int} (h1 : 1 ≤ e) (h2 : e ≤ 100) (h3 : 0 ≤ s) (h4 : s ≤ 1000) : Rule.Ok ⟨k, e, s⟩ := ⟨⟨h1, h2⟩, h3, h4⟩
theorem Rule.Ok.ev1 {r : Rule} (h : r.Ok) : 1 ≤ r.ev := h.1.1
def boundedB (a b : Rule) : Bool := if b.ev = 1 then true else if a.kd = .after ∨ b.kd = .pile then decide (b.ev ≤ a.ev) else decide (a.kd = .fixed) && (decide (b.kd = .fixed) && (decide (a.ev % b.ev = 0) && decide ((a.st - b.st) % b.ev = 0)))
theorem bounded_of {a b : Rule} (h : boundedB a b = true) : Bounded a b := by
  unfold boundedB at h
  split at h
  · exact .inl ‹_›
  · split at h
    · exact .inr (.inl ⟨‹_›, of_decide_eq_true h⟩)
    · simp only [Bool.and_eq_true, decide_eq_true_eq] at h
      exact .inr (.inr ⟨h.1, h.2.1, Int.dvd_of_emod_eq_zero h.2.2.1, Int.dvd_of_emod_eq_zero h.2.2.2⟩)
theorem of_bounded {a b : Rule} (h : Bounded a b) (ha : 1 ≤ a.ev) (hb : 1 ≤ b.ev) : boundedB a b = true := by
  unfold boundedB
  split
  · rfl
  · rcases h with h | ⟨h, h1⟩ | ⟨k1, k2, h1, h2⟩
    · exact absurd h ‹_›
    · rw [if_pos h]
      exact decide_eq_true h1
    · rw [if_neg (by rw [k1, k2]; decide), decide_eq_true k1, decide_eq_true k2, decide_eq_true (Int.emod_eq_zero_of_dvd h1), decide_eq_true (Int.emod_eq_zero_of_dvd h2)]
      rfl
theorem bounded_le {a b : Rule} (h : Bounded a b) (ha : 1 ≤ a.ev) (hb : 1 ≤ b.ev) : b.ev ≤ a.ev := by
  rcases h with h | ⟨_, h⟩ | ⟨_, _, h, _⟩
  · omega
  · exact h
  · exact Int.le_of_dvd (by omega) h
theorem bounded_trans {a b c : Rule} (h1 : Bounded a b) (h2 : Bounded b c) (ha : 1 ≤ a.ev) (hb : 1 ≤ b.ev) (hc : 1 ≤ c.ev) : Bounded a c := by
  have l1 := bounded_le h1 ha hb
  have l2 := bounded_le h2 hb hc
  by_cases c1 : c.ev = 1
  · exact .inl c1
  have b1 : b.ev ≠ 1 := by omega
  rcases h1 with h | ⟨k, _⟩ | ⟨k1, k2, d1, d2⟩
  · exact absurd h b1
  · rcases h2 with h | ⟨k', _⟩ | ⟨k1', k2', d1', d2'⟩
    · exact absurd h c1
    · refine .inr (.inl ⟨?_, by omega⟩)
      rcases k with k | k
      · exact .inl k
      · rcases k' with k' | k'
        · rw [k] at k'
          cases k'
        · exact .inr k'
    · refine .inr (.inl ⟨?_, by omega⟩)
      rcases k with k | k
      · exact .inl k
      · rw [k] at k1'
        cases k1'
  · rcases h2 with h | ⟨k', _⟩ | ⟨k1', k2', d1', d2'⟩
    · exact absurd h c1
    · refine .inr (.inl ⟨?_, by omega⟩)
      rcases k' with k' | k'
      · rw [k2] at k'
        cases k'
      · exact .inr k'
    · refine .inr (.inr ⟨k1, k2', Int.dvd_trans d1' d1, ?_⟩)
      have := Int.dvd_add (Int.dvd_trans d1' d2) d2'
      rwa [show a.st - b.st + (b.st - c.st) = a.st - c.st by omega] at this
/-- the largest excess -/
def exc (a b : Rule) : Int := max 0 ((b.st - a.st + a.ev - 1) / a.ev)
theorem exc_le {a b : Rule} (ha : 1 ≤ a.ev) : b.st ≤ a.st + exc a b * a.ev := by
  have h1 := Int.emod_add_mul_ediv (b.st - a.st + a.ev - 1) a.ev
  have h2 := Int.emod_lt_of_pos (b.st - a.st + a.ev - 1) (show 0 < a.ev by omega)
  have h3 : (b.st - a.st + a.ev - 1) / a.ev ≤ exc a b := by
    unfold exc
    omega
  have h4 := Int.mul_le_mul_of_nonneg_left h3 (show 0 ≤ a.ev by omega)
  rw [Int.mul_comm (exc a b)]
  omega
theorem exc_min {a b : Rule} (ha : 1 ≤ a.ev) {k : Int} (hk : 0 ≤ k) (h : b.st ≤ a.st + k * a.ev) : exc a b ≤ k := by
  have h1 : (b.st - a.st + a.ev - 1) / a.ev < k + 1 := Int.ediv_lt_of_lt_mul (by omega) (by rw [Int.add_mul, Int.one_mul]; omega)
  unfold exc
  omega
theorem exc_lt {a b : Rule} (ha : 1 ≤ a.ev) {k : Int} (hk : 0 ≤ k) (h : k < exc a b) : a.st + a.ev * k < b.st := by
  by_cases z : a.st + a.ev * k < b.st
  · exact z
  · have := exc_min (a := a) (b := b) ha hk (by rw [Int.mul_comm k]; omega)
    omega
theorem exc_pos {a b : Rule} : 0 ≤ exc a b := by
  unfold exc
  omega
theorem exc_tri {a b c : Rule} (h1 : Bounded a b) (ha : 1 ≤ a.ev) (hb : 1 ≤ b.ev) : exc a c ≤ exc a b + exc b c := by
  have p1 := exc_pos (a := a) (b := b)
  have p2 := exc_pos (a := b) (b := c)
  refine exc_min ha (by omega) ?_
  have e1 := exc_le (a := a) (b := b) ha
  have e2 := exc_le (a := b) (b := c) hb
  have l1 := bounded_le h1 ha hb
  have m := Int.mul_le_mul_of_nonneg_left l1 p2
  rw [Int.add_mul]
  omega
theorem exc_bnd {a b : Rule} (h : Bounded a b) (ha : 1 ≤ a.ev) (hb : 1 ≤ b.ev) {ns : List Int} (hp : ns.Pairwise (· < ·)) : ((done a ns).length : Int) - (done b ns).length ≤ exc a b := by
  have p1 := exc_pos (a := a) (b := b)
  have e1 := exc_le (a := a) (b := b) ha
  have := bnd a b ha hb h ns a.st b.st (exc a b).toNat hp (on_st a) (on_st b) (by rw [Int.toNat_of_nonneg p1]; exact e1)
  rw [done_ln, done_ln]
  omega
/-- days that the first rule does each, from its start -/
def stp (s e : Int) (n : Nat) : List Int := (List.range n).map fun (k : Nat) => s + e * (k : Int)
theorem stp_succ (s e : Int) (n : Nat) : stp s e (n + 1) = stp s e n ++ [s + e * (n : Int)] := by
  unfold stp
  rw [List.range_succ, List.map_append]
  rfl
theorem stp_len (s e : Int) (n : Nat) : (stp s e n).length = n := by
  unfold stp
  rw [List.length_map, List.length_range]
theorem stp_mem {s e : Int} {n : Nat} {x : Int} (h : x ∈ stp s e n) : ∃ k : Nat, k < n ∧ x = s + e * (k : Int) := by
  unfold stp at h
  obtain ⟨k, hk, rfl⟩ := List.mem_map.mp h
  exact ⟨k, List.mem_range.mp hk, rfl⟩
theorem stp_pw (s e : Int) (he : 1 ≤ e) (n : Nat) : (stp s e n).Pairwise (· < ·) := by
  unfold stp
  rw [List.pairwise_map]
  refine List.pairwise_lt_range.imp fun {a b} h => ?_
  have h2 := Int.mul_lt_mul_of_pos_left (show (a : Int) < (b : Int) by omega) (show 0 < e by omega)
  omega
theorem stp_log {s e : Int} (he : 1 ≤ e) (he2 : e ≤ 100) (s0 : 0 ≤ s) (s1 : s ≤ 1000) {n : Nat} (hn : n ≤ 80) : Log 80 (stp s e n) := by
  refine ⟨stp_pw s e he n, by rw [stp_len]; exact hn, fun x hx => ?_⟩
  obtain ⟨k, hk, rfl⟩ := stp_mem hx
  have h1 : 0 ≤ e * (k : Int) := Int.mul_nonneg (by omega) (by omega)
  have h2 : e * (k : Int) ≤ 100 * 80 := Int.mul_le_mul he2 (by omega) (by omega) (by omega)
  omega
theorem stp_done (r : Rule) (he : 1 ≤ r.ev) : ∀ n, due r (stp r.st r.ev n) = r.st + r.ev * (n : Int) ∧ (done r (stp r.st r.ev n)).length = n
  | 0 => ⟨by
      show r.st = r.st + r.ev * 0
      omega, rfl⟩
  | n + 1 => by
    obtain ⟨i1, i2⟩ := stp_done r he n
    have c : r.st + r.ev * (n : Int) ≤ r.st + r.ev * (n : Int) := Int.le_refl _
    rw [stp_succ, due_snoc, done_snoc, i1, if_pos c, if_pos c, List.length_append, i2]
    refine ⟨?_, rfl⟩
    have e1 : r.ev * ((n + 1 : Nat) : Int) = r.ev * (n : Int) + r.ev := by
      rw [Int.natCast_add, Int.mul_add]
      simp
    rw [e1]
    unfold nxt
    split
    · omega
    · omega
    · rw [show r.st + r.ev * (n : Int) - r.st = r.ev * (n : Int) by omega, Int.mul_emod_right]
      omega
theorem none_done (r : Rule) : ∀ (ns : List Int) (u : Int), (∀ x ∈ ns, x < u) → (pl r ns u).1 = []
  | [], u, _ => rfl
  | d :: ds, u, h => by
    have h1 := h d List.mem_cons_self
    rw [pl_cons, if_neg (by omega)]
    exact none_done r ds u fun x hx => h x (List.mem_cons_of_mem _ hx)
end Mt
namespace DtE
open PySem PySem.Spec PyProof.Rows L2
open AutoSeq1 (wpAny_loadPart')
theorem meets_enumerate_newT (l : Addr) (items : Array Value) (n : Nat) (dct : Option Addr) (sl : Array (Option Value)) :
    Meets (Builtin.«enumerate.__new__» ⟨[.type "enumerate", .ref l], []⟩) (fun _ R s => s.heap.get? l = some { cls := .type "tuple", dict := dct, data := .seq items n, slots := sl } ∧
      R (.ok (.ret (.ref (s.heap.push { cls := .type "tuple_iterator", data := .fields #[.ref l, .int 0 0] }).objs.size)))
        { s with heap := (s.heap.push { cls := .type "tuple_iterator", data := .fields #[.ref l, .int 0 0] }).push { cls := .type "enumerate", data := .fields #[.none, .bool false, .ref s.heap.objs.size, rawInt 0, .none, .none] } }) :=
  .of_wp fun prog w A R s h => by
    obtain ⟨hp, g, d, tk, os⟩ := s; obtain ⟨hl, h⟩ := h
    have hsub := sub_enumerate
    have hL : Heap.IsTuple (Shared.heap ⟨hp, g, d, tk, os⟩) l items := ⟨_, hl, rfl, n, rfl⟩
    wp_walk using wpAny_loadPart' hl
    refine wpAny_stack_any fun st => wpAny_pure ?_
    split
    · rename_i c _ _ _ _ _
      cases (c == Value.type "enumerate")
      · wp_walk using wpAny_loadPart' hl, wpAny_pyIter_tuple hL
        exact ⟨_, rfl, h⟩
      · wp_walk using wpAny_loadPart' hl, wpAny_pyIter_tuple hL
        exact ⟨_, rfl, h⟩
    · wp_walk using wpAny_loadPart' hl, wpAny_pyIter_tuple hL
      exact ⟨_, rfl, h⟩
section
variable {prog : Program} {w : World} {A : Around} {E : Value → Shared → Prop} {s : Shared}
theorem call_enumerate_tuple {l : Addr} {items : Array Value} {Q : Value → Shared → Prop} (hL : s.heap.IsTuple l items)
    (h : ∀ h', IsEnum h' (s.heap.objs.size + 1) s.heap.objs.size 0 .none → h'.IsTupleIter s.heap.objs.size l 0 → h'.objs.size = s.heap.objs.size + 2 →
      (∀ b o, s.heap.get? b = some o → h'.get? b = some o) → Q (.ref (s.heap.objs.size + 1)) { s with heap := h' }) :
    wpAny (model prog w) A (call (.type "enumerate") [.ref l]) Q E s := by
  obtain ⟨⟨c, dct, dt, sl⟩, hl, hc, n, hd⟩ := hL
  replace hc : c = .type "tuple" := hc
  replace hd : dt = .seq items n := hd
  subst hc hd
  refine callType_new F.called_enumerate (by decide) (F.typeCall_enumerate_1 _) (F.newCall_enumerate_1 _) (fun obj => F.args_object_init_2 obj _) F.entry_enumerate_new
    (meets_enumerate_newT l items n dct sl) ⟨hl, ?_⟩
  have hz : (s.heap.push { cls := .type "tuple_iterator", data := .fields #[.ref l, .int 0 0] }).objs.size = s.heap.objs.size + 1 := Heap.size_push ..
  show _ ∧ _
  rw [hz]
  have he : IsEnum ((s.heap.push { cls := .type "tuple_iterator", data := .fields #[.ref l, .int 0 0] }).push
      { cls := .type "enumerate", data := .fields #[.none, .bool false, .ref s.heap.objs.size, rawInt 0, .none, .none] }) (s.heap.objs.size + 1) s.heap.objs.size 0 .none := by
    have := Heap.get?_push_size (s.heap.push { cls := .type "tuple_iterator", data := .fields #[.ref l, .int 0 0] })
      (o := { cls := .type "enumerate", data := .fields #[.none, .bool false, .ref s.heap.objs.size, rawInt 0, .none, .none] }) rfl
    rw [hz] at this; exact this
  refine ⟨⟨_, he, rfl⟩, h _ he ⟨_, Heap.get?_push_of_some _ (Heap.get?_push_size _ rfl), rfl, rfl⟩ (by rw [Heap.size_push, hz]) fun b o x => Heap.get?_push_of_some _ (Heap.get?_push_of_some _ x)⟩
theorem pyNext_enumT_end {e it l : Addr} {i : Nat} {items : Array Value} {old : Value} {Q : Option Value → Shared → Prop} (hh : A.handled = none)
    (he : IsEnum s.heap e it i old) (hit : s.heap.IsTupleIter it l i) (hl : s.heap.IsTuple l items) (hx : items[i]? = none)
    (hQ : ∀ h', Heap.ExtBut it s.heap h' → Q none { s with heap := h' }) : wpAny (model prog w) A (pyNext (.ref e)) Q E s := by
  have hT : s.TypeIs (.ref e) "enumerate" := ⟨_, he, rfl⟩
  unfold pyNext
  refine wpAny_bind (wpAny_attempt (wpAny_callSpecial?_slot (name := Str.ofString "__next__") hT F.slot_enumerate_next
    (wpAny_call_entry F.slot_enumerate_next hT F.entry_enumerate_next ?_ (F.args_enumerate_next_1 _))))
  show wpAny _ _ (field (.ref e) 2 >>= _) _ _ _
  refine wpAny_bind (wpAny_field he rfl (x := .ref it) rfl ?_)
  refine wpAny_bind (wpAny_nextOf_tuple_end hh hit hl hx fun h' x he' hx' => ?_)
  obtain ⟨o, ho, hc⟩ := hx'
  refine wpAny_bind (wpAny_isInstance (T := "StopIteration") (b := true) ⟨o, ho, hc⟩ isSubtype_stop ?_)
  exact wpAny_pure (hQ _ he')
end
/-- the tuple at a as it stands at each turn, each item in a new pair -/
def IteT (K : PySem.W.Frag) (a : Addr) : It :=
  ⟨fun i H => ∃ (xs : List V) (x : V), SqT K H a xs ∧ xs[i]? = some x, fun i H v H' => ∃ T x, v = .ref T ∧ H T = none ∧ H' = upd H T (.tup [.int (i : Nat), x]) ∧ ∀ xs, SqT K H a xs → xs[i]? = some x, fun i H => ∃ xs : List V, SqT K H a xs ∧ xs.length ≤ i⟩
theorem turn_enumT {P : Program} {w : World} {K : PySem.W.Frag} {elts : List Expr} {kk : Nat} {tpos : Pos} (a e it : Addr) :
    Turn P w K (.Tuple elts kk tpos) (IteT K a) [e, it] e (fun i h => (∃ old, IsEnum h e it ((i : Nat) : Int) old) ∧ h.IsTupleIter it a i ∧ e ≠ it ∧ it ≠ a) where
  mem := by simp
  obj := fun i h st b hb => by
    obtain ⟨⟨old, he⟩, ⟨o, ho, hc, hd⟩, _⟩ := st
    have e' : b = e ∨ b = it := by simpa using hb
    rcases e' with z | z
    · rw [z]; exact ⟨_, he, fun v q => nomatch q⟩
    · rw [z]; exact ⟨o, ho, fun v q => by rw [hd] at q; cases q⟩
  keep := fun i h h' st k => let ⟨⟨old, he⟩, hi, hne⟩ := st; ⟨⟨old, k e (by simp) _ he⟩, hi.at fun o q => k it (by simp) o q, hne⟩
  item := by
    intro X hP hw hK hc i pins s σ H E I hf st hg
    subst hP hw hK
    obtain ⟨⟨old, he⟩, hit, hne, hna⟩ := st
    obtain ⟨xs, x, hq, hx⟩ := hg
    obtain ⟨its, rv, p, hz⟩ := I.tuple hq
    obtain ⟨u, hu, ru⟩ := rv.get hx
    have hel : e < s.heap.objs.size := Heap.lt_size he
    have hil : it < s.heap.objs.size := by obtain ⟨_, q, _⟩ := hit; exact Heap.lt_size q
    have hea : e ≠ a := fun z => by
      obtain ⟨o, ho, hcl, _⟩ := p
      rw [← z] at ho
      rw [show s.heap.get? e = _ from he] at ho
      cases ho
      injection hcl with hcl
      exact absurd hcl (by decide)
    have hu' : its.toArray[i]? = some u := by simpa using hu
    have hlt : i < its.toArray.size := (Array.getElem?_eq_some_iff.mp hu').1
    refine wpAny_pyNext_enum_itemD (Draws.tuple (A := X.A.in1) (show X.A.in1.handled = none from I.ok.hd hc) it a (Ne.symm hna) its.toArray) he ⟨hit, p⟩ hlt hne (by simp [hne, hea]) fun x' h' tk hx' ho st' hT hsz hk => ?_
    obtain ⟨hit', p'⟩ := st'
    have ex : x' = u := by
      rw [hu'] at hx'
      cases hx'
      rfl
    subst ex
    refine ⟨_, rfl, wpAny_letOwnedTupleGo_enum (s := { s with heap := h', toks := tk + 1 }) ho fun h'' he' sb => ?_⟩
    have hT2 : h''.get? s.heap.objs.size = some { cls := .type "tuple", data := .seq #[.int i tk, x'] } := (sb.2 _ (Nat.ne_of_gt hel)).trans hT
    have new : ObjOk X.prog X.w (upd H s.heap.objs.size (.tup [.int (i : Nat), x])) h'' s.heap.objs.size (.tup [.int (i : Nat), x]) :=
      ⟨by show 2 ≤ sizeLine; decide, [.int i tk, x'], .cons ⟨_, rfl⟩ (.cons ru .nil), ⟨_, hT2, rfl, _, rfl⟩⟩
    have I1 : Inv X pins σ (upd H s.heap.objs.size (.tup [.int (i : Nat), x])) { s with heap := h'', toks := tk + 1 } :=
      I.turnedNew (ch := [e, it]) (fun b ob hb q => (sb.2 b (fun z => hb (by simp [z]))).trans (hk b ob (fun z => hb (by simp [z])) (fun z => hb (by simp [z])) q)) hf (Nat.le_refl _) new
    refine ⟨.ref s.heap.objs.size, _, I1, rfl, ⟨_, x, rfl, I.hok.fresh (Nat.le_refl _), rfl, fun ys hy => by rw [I.tuple_inj hy hq]; exact hx⟩, ⟨⟨x', ?_⟩, hit'.at fun o q => (sb.2 it (Ne.symm hne)).trans q, hne, hna⟩, fun b hb => ?_⟩
    · have e1 : ((i + 1 : Nat) : Int) = (i : Int) + 1 := by omega
      rw [e1]; exact he'
    · have hb' : b < s.heap.objs.size := by
        have e' : b = e ∨ b = it := by simpa using hb
        rcases e' with z | z
        · rw [z]; exact hel
        · rw [z]; exact hil
      rw [upd_ne (Nat.ne_of_lt hb')]
      exact (hf b hb).1
  done := by
    intro X hP hw hK hc i pins s σ H E I hf st hg
    subst hP hw hK
    obtain ⟨⟨old, he⟩, hit, hne, hna⟩ := st
    obtain ⟨xs, hq, hx⟩ := hg
    obtain ⟨its, rv, p, hz⟩ := I.tuple hq
    obtain ⟨f0, f1, f2, f3, f4, f5⟩ := hf it (by simp)
    have hl := rv.length
    exact pyNext_enumT_end (I.ok.hd hc) he hit p (by simp; omega) fun h' eb => ⟨rfl, I.turned (t' := s.toks) (fun b o hb q => eb b o hb q) f0 f1 f3 f4 f5⟩
  self := fun A i s Q E st h => let ⟨⟨_, he⟩, _⟩ := st; wpAny_pyIter_enum he h
def iEnumT (K : PySem.W.Frag) (ta : TA) : TI := fun σ H R => ta σ H fun vs H1 => ∃ a xs, vs = [.ref a] ∧ SqT K H1 a xs ∧ R (IteT K a) H1
theorem pi_enumT {X : Cx} {e : Expr} {ta : TA} {p pos tpos : Pos} {elts : List Expr} {kk : Nat} (hg : Gl X "enumerate") (hm : X.mg "enumerate" = none) (ha : PA X [e] ta) (hs : starEach [e] X.env = [(false, eval e X.env)] := by rfl) :
    PI X (.Tuple elts kk tpos) (.Call (.Name "enumerate" p) [e] [] pos) (iEnumT X.K ta) := by
  refine ⟨fun pins s σ H R I h => ?_⟩
  refine Call_ (ld_blt I hg hm boot_enumerate (PyProof.Rows.callWith_type1 (thn (ha.run pos pins s σ H _ I h) fun us s1 ⟨vs, H1, I1, r1, q1⟩ => ?_) hs rfl))
  obtain ⟨a, xs, ex, hq, q⟩ := q1
  subst ex
  cases r1 with
  | cons r rr =>
    cases rr
    cases r
    obtain ⟨its, rv, p', hz⟩ := I1.tuple hq
    have hal : a < s1.heap.objs.size := by
      obtain ⟨o, ho, _⟩ := p'
      exact Heap.lt_size ho
    refine call_enumerate_tuple p' fun h' he hit hsz hk => wpAny_pyIter_enum he ?_
    have I2 : Inv X pins σ H1 { s1 with heap := h' } := I1.kept (t' := s1.toks) hk
    refine ⟨s1.heap.objs.size + 1, [s1.heap.objs.size + 1, s1.heap.objs.size], _, _, H1, rfl, I2, turn_enumT a (s1.heap.objs.size + 1) s1.heap.objs.size, ⟨⟨.none, he⟩, hit, Nat.succ_ne_self _, Nat.ne_of_gt hal⟩, fun b hb => ?_, q⟩
    have e' : b = s1.heap.objs.size + 1 ∨ b = s1.heap.objs.size := by simpa using hb
    have hle : s1.heap.objs.size ≤ b := by
      rcases e' with z | z
      · rw [z]; exact Nat.le_add_right _ _
      · rw [z]; exact Nat.le_refl _
    exact I1.fpOk hle (I1.hok.fresh hle)
theorem walk_enumT {K : PySem.W.Frag} {a : Addr} {xs : List V} : Walk (IteT K a) xs.length (fun H => SqT K H a xs) (YPair (fun i => some (.int (i : Nat))) (fun i => xs[i]?)) := by
  refine ⟨fun i _ hi c => ⟨xs, xs[i], c, List.getElem?_eq_getElem hi⟩, fun _ c => ⟨xs, c, Nat.le_refl _⟩, fun i H v H' _ c y => ?_⟩
  obtain ⟨T, x, k1, k2, k3, k4⟩ := y
  exact ⟨T, _, x, k1, k2, k3, rfl, k4 xs c⟩
end DtE
namespace Dt
open PySem PySem.Spec PyProof.Rows L2
variable [TabG]
section TC
variable [TabC]
def iEnT (da : DA) : DI := fun ρ f P => da ρ f fun ds f1 => match ds with
  | [.tuple es] => P (enumD 0 es) f1
  | _ => False
section
variable {X : Cx} {mb : Option Addr} {js : Nat} {pn : Option V} {tg e a b : Expr} {es : List Expr} {te : TE} {de : DE} {ta : TA} {da : DA} {n : Nat} {p pos tpos : Pos} {elts : List Expr} {kk : Nat}
theorem xi_enumT (ha : XA X mb js pn [e] n ta da) (hg : Gl X "enumerate") (hm : X.mg "enumerate" = none) (hs : starEach [e] X.env = [(false, eval e X.env)] := by rfl) : XI X mb js pn (.Tuple elts kk tpos) (.Call (.Name "enumerate" p) [e] [] pos) (DtE.iEnumT X.K ta) (iEnT da) :=
  ⟨DtE.pi_enumT hg hm ha.pe hs, fun G H f σ ρ P S q R k => ha.sm G H f σ ρ _ S q _ fun vs ds f1 G1 H1 l1 g1 b1 r1 q1 => by
    split at q1
    · rename_i es
      cases r1 with
      | cons r1 r2 =>
        cases r2
        cases r1 with
        | tup h1 h2 =>
          rename_i ad xs
          have w := DtE.walk_enumT (K := X.K) (a := ad) (xs := xs)
          have hl := h2.len
          refine ⟨ad, xs, rfl, sqT_mono g1.gh h1, k _ _ f1 G1 H1 g1 b1 ⟨fun i H' hi s => w.goes i H' (by rw [enumD_len] at hi; omega) (sqT_mono s h1), fun H' s => ?_, fun i H' x H2 d hd s y G2 s2 s3 => ?_⟩ q1⟩
          · rw [enumD_len, ← hl]
            exact w.stops H' (sqT_mono s h1)
          · obtain ⟨z, hz, rfl⟩ := enumD_get _ _ _ _ hd
            have hi : i < xs.length := by
              rw [hl]
              exact (List.getElem?_eq_some_iff.mp hz).1
            obtain ⟨T, x1, x2, e1, e2, e3, e4, e5⟩ := w.yields i H' x H2 hi (sqT_mono s h1) y
            obtain ⟨v, hv, rv⟩ := h2.get hz
            have e6 := hv.symm.trans e5
            cases e6
            cases e4
            subst e1
            subst e3
            rw [Nat.zero_add]
            exact go_pair s3 e2 (.int _) (rv.mono s2)
    · exact q1.elim⟩
def PRg3 (X : Cx) (e : Expr) (t : L2.St → Hp → (Int → Int → Int → Hp → Prop) → Prop) : Prop :=
  ∀ (pins : List (Addr × Obj)) (s : Shared) (σ : L2.St) (H : Hp) (Q : Int → Int → Int → Hp → Prop), Inv X pins σ H s → t σ H Q →
    wpAny (model X.prog X.w) X.A (eval e X.env) (fun x s' => ∃ r a b c t u v H', x = .ref r ∧ IsRange s'.heap r a b c t u v ∧ Inv X pins σ H' s' ∧ Q a b c H') X.xe s
def tRg3 (ta tb tc : TE) : L2.St → Hp → (Int → Int → Int → Hp → Prop) → Prop := fun σ H Q => ta σ H fun x H1 => tb σ H1 fun y H2 => tc σ H2 fun z H3 => ∃ i j k, [x, y, z] = [V.int i, V.int j, V.int k] ∧ (0 < k ∧ k < 1073741824) ∧ Q i j k H3
theorem prg_3 {c : Expr} {tb tc : TE} (hg : Gl X "range") (hm : X.mg "range" = none) (ha : PE X a te) (hb : PE X b tb) (hcc : PE X c tc) (na : starEach [a, b, c] X.env = (false, eval a X.env) :: starEach [b, c] X.env := by rfl)
    (nb : starEach [b, c] X.env = (false, eval b X.env) :: starEach [c] X.env := by rfl) (nc : starEach [c] X.env = (false, eval c X.env) :: starEach [] X.env := by rfl) (hp : (backTo pos (starEach [b, c] X.env)).any (·.1) = false := by rfl) : PRg3 X (.Call (.Name "range" p) [a, b, c] [] pos) (tRg3 te tb tc) := by
  intro pins s σ H Q I h
  have hA := (pa_cons ha (pa_cons hb (pa_cons hcc pa_nil nc) nb) na).run pos pins s σ H (fun vs H1 => ∃ i j k, vs = [.int i, .int j, .int k] ∧ (0 < k ∧ k < 1073741824) ∧ Q i j k H1) I ?_
  · refine Call_ (ld_blt I hg hm boot_range (PyProof.Rows.callWith_type1 (thn hA fun us s1 ⟨vs, H1, I1, r1, i, j, k, e, hk, q⟩ => ?_) na hp))
    subst e
    cases r1 with
    | cons r1 r2 => cases r2 with
      | cons r2 r3 => cases r3 with
        | cons r3 r4 =>
          cases r4
          obtain ⟨t1, rfl⟩ := r1
          obtain ⟨t2, rfl⟩ := r2
          obtain ⟨t3, rfl⟩ := r3
          exact call_range_3 (by omega) ⟨_, i, j, k, _, _, _, H1, rfl, IsRange.new _ _ _ _ _ _ _, I1.kept (t' := s1.toks) fun b u e => Heap.get?_push_of_some _ e, q⟩ (.inl (PyProof.noPylong_small (by omega)))
  · exact h
def stepN (a b c : Int) : Nat := if a < b then ((b - a - 1) / c + 1).toNat else 0
def rg3V (a b c : Int) : List V := (List.range (stepN a b c)).map fun (i : Nat) => V.int (a + (i : Int) * c)
def rg3D (a b c : Int) : List PyData := (List.range (stepN a b c)).map fun (i : Nat) => PyData.int (a + (i : Int) * c)
def Rg3Ok (a b c : Int) : Prop := (-1073741824 ≤ a ∧ a ≤ 1073741824) ∧ (-1073741824 ≤ b ∧ b ≤ 1073741824) ∧ (0 < c ∧ c < 1073741824) ∧ b - a ≤ 16777216
theorem stepN_le {a b c : Int} (h : Rg3Ok a b c) : stepN a b c ≤ 16777216 := by
  obtain ⟨_, _, ⟨c1, _⟩, h⟩ := h
  unfold stepN
  split
  · have := Int.ediv_le_self c (show (0 : Int) ≤ b - a - 1 by omega)
    omega
  · omega
theorem stepN_size {a b c : Int} (h : 0 < c) : Builtin.Range.rangeSize a b c = (stepN a b c : Int) := by
  unfold Builtin.Range.rangeSize stepN
  rw [if_pos h]
  split
  · have := Int.ediv_nonneg (a := b - a - 1) (b := c) (by omega) (by omega)
    omega
  · rfl
theorem small_3 {a b c : Int} (h : Rg3Ok a b c) : Builtin.Range.small a b c = true := by
  have hn := stepN_le h
  obtain ⟨⟨a1, a2⟩, ⟨b1, b2⟩, ⟨c1, c2⟩, h⟩ := h
  unfold Builtin.Range.small
  rw [stepN_size c1]
  simp only [Builtin.Range.rangeFitsLong, Bool.and_eq_true, Bool.or_eq_true, decide_eq_true_eq, beq_iff_eq, show c > 0 from c1, if_true]
  omega
theorem vals_rg3 {a b c : Int} {acc : Array Value} (h : ItemsOf (fun i v => ∃ t, v = .int (a + i * c) t) acc (stepN a b c)) : Vals (rg3V a b c) acc.toList := by
  have e : acc.toList.length = stepN a b c := by rw [Array.length_toList]; exact h.1
  unfold rg3V
  rw [← e]
  refine vals_of_get acc.toList _ fun j u hj => ?_
  obtain ⟨t, rfl⟩ := h.2 j u (by rw [← hj, Array.getElem?_toList])
  exact ⟨t, rfl⟩
def tLstRg3 (te : L2.St → Hp → (Int → Int → Int → Hp → Prop) → Prop) : TE := fun σ H Q => te σ H fun a b c H1 => Rg3Ok a b c ∧ ∀ q, H1 q = none → Q (.ref q) (upd H1 q (.lst (rg3V a b c)))
theorem pe_listRg3 {t3 : L2.St → Hp → (Int → Int → Int → Hp → Prop) → Prop} (hc : X.calm = true) (hg : Gl X "list") (hm : X.mg "list" = none) (he : PRg3 X e t3) (na : starEach [e] X.env = (false, eval e X.env) :: starEach [] X.env := by rfl) : PE X (.Call (.Name "list" p) [e] [] pos) (tLstRg3 t3) := by
  refine ⟨fun pins s σ H Q I h => ?_⟩
  refine Call_ (ld_blt I hg hm boot_list (PyProof.Rows.callWith_type1 (args_cons (thn (he pins s σ H _ I h) fun x s1 ⟨r, a, b, c, t, u, v, H1, ex, hr, I1, ok, q⟩ => args_nil ?_) na) na))
  subst ex
  have hn := stepN_le ok
  refine call_list_range (n := stepN a b c) (I1.ok.hd hc) hr (small_3 ok) (stepN_size ok.2.2.1.1) hn fun h' tk acc c' hk e' hi => ?_
  refine ⟨.ref s1.heap.objs.size, upd H1 s1.heap.objs.size (.lst (rg3V a b c)), I1.laid hk (Nat.le_refl _) (show ObjOk X.prog X.w _ _ _ (.lst (rg3V a b c)) from ⟨?_, acc.toList, c', vals_rg3 hi, ?_⟩), rfl, q _ (I1.hok.fresh (Nat.le_refl _))⟩
  · unfold rg3V
    rw [List.length_map, List.length_range, sizeLine_eq]
    exact hn
  · rw [Array.toArray_toList]; exact e'
theorem rpa_rg3 {K : PySem.W.Frag} {G : Hp} (a b c : Int) : RpA K G (rg3V a b c) (rg3D a b c) := by
  unfold rg3V rg3D
  generalize List.range (stepN a b c) = l
  induction l with
  | nil => exact .nil
  | cons x l ih => exact .cons (.int _) ih
def dLstRg3 (da db dc : DE) : DA := fun ρ f P => da ρ f fun x f1 => db ρ f1 fun y f2 => dc ρ f2 fun z f3 => match x, y, z with
  | .int a, .int b, .int c => Rg3Ok a b c ∧ P (rg3D a b c) f3
  | _, _, _ => False
theorem xn_listRg3 {c : Expr} {tb tc : TE} {db dc : DE} {px pr : Pos} (ha : XE X mb js pn a te de) (hb : XE X mb js pn b tb db) (hcc : XE X mb js pn c tc dc) (hg : Gl X "list") (hm : X.mg "list" = none) (hgr : Gl X "range") (hmr : X.mg "range" = none) (hc : X.calm = true := by rfl)
    (na : starEach [.Call (.Name "range" pr) [a, b, c] [] px] X.env = (false, eval (.Call (.Name "range" pr) [a, b, c] [] px) X.env) :: starEach [] X.env := by rfl) (na1 : starEach [a, b, c] X.env = (false, eval a X.env) :: starEach [b, c] X.env := by rfl)
    (nb : starEach [b, c] X.env = (false, eval b X.env) :: starEach [c] X.env := by rfl) (nc : starEach [c] X.env = (false, eval c X.env) :: starEach [] X.env := by rfl) (hp : (backTo px (starEach [b, c] X.env)).any (·.1) = false := by rfl) :
    XN X mb js pn (.Call (.Name "list" p) [.Call (.Name "range" pr) [a, b, c] [] px] [] pos) (tLstRg3 (tRg3 te tb tc)) (dLstRg3 de db dc) :=
  ⟨pe_listRg3 hc hg hm (prg_3 hgr hmr ha.pe hb.pe hcc.pe na1 nb nc hp) na, fun G H f σ ρ P S q Q k => ha.sm G H f σ ρ _ S q _ fun v d f1 G1 H1 g1 b1 r1 q1 => hb.sm G1 H1 f1 σ ρ _ (S.go g1 b1) q1 _ fun v2 d2 f2 G2 H2 g2 b2 r2 q2 => hcc.sm G2 H2 f2 σ ρ _ ((S.go g1 b1).go g2 b2) q2 _ fun v3 d3 f3 G3 H3 g3 b3 r3 q3 => by
    split at q3
    · rename_i i j l
      cases r1
      cases r2
      cases r3
      have g := (g1.trans g2).trans g3
      exact ⟨i, j, l, rfl, q3.1.2.2.1, q3.1, fun p hp => k p _ _ f3 G3 _ (g.trans (Go.grow g.gh (same_new hp))) (b3.same (same_new hp)) (none_back g hp) (same_none g.gh hp) upd_same (rpa_rg3 i j l) q3.2⟩
    · exact q3.elim⟩
/-- a, b, c = x, y, z -/
def dPar3 (i j l : Nat) (a b c : DE) : DS := fun D ρ f => a ρ f fun x f1 => b ρ f1 fun y f2 => c ρ f2 fun z f3 => D.nx (((ρ.set i (.d x)).set j (.d y)).set l (.d z)) f3
theorem sim_par3 {K : PySem.W.Frag} {i j l : Nat} {ta tb tc : TE} {da db dc : DE} (ha : Sim K mb js pn ta da) (hb : Sim K mb js pn tb db) (hc : Sim K mb js pn tc dc) (hi : i ≠ js) (hj : j ≠ js) (hl : l ≠ js) : SimS K mb js pn (tPar3 i j l (tCons ta (tCons tb (tCons tc tNil)))) (dPar3 i j l da db dc) := fun L G0 H0 D E ρ f σ H a q l' => by
  obtain ⟨G, S, g0, sL, ow⟩ := a
  refine ha G H f σ ρ _ S q _ fun v d f1 G1 H1 g1 b1 r1 q1 => hb G1 H1 f1 σ ρ _ (S.go g1 b1) q1 _ fun u e f2 G2 H2 g2 b2 r2 q2 => hc G2 H2 f2 σ ρ _ ((S.go g1 b1).go g2 b2) q2 _ fun w e3 f3 G3 H3 g3 b3 r3 q3 => ⟨v, u, w, rfl, ?_⟩
  have g := (g1.trans g2).trans g3
  obtain ⟨S1, O1⟩ := (S.go g b3).set1 hi (r1.mono (g2.gg.trans g3.gg))
  obtain ⟨S2, O2⟩ := S1.set1 hj (r2.mono g3.gg)
  obtain ⟨S3, O3⟩ := S2.set1 hl r3
  have O := (O1.trans O2).trans O3
  exact l'.nx _ f3 _ H3 ⟨G3, S3, g0.trans g, sL.trans g.gg, fun k ds p e1 e2 => ow k ds p (O k ds p e1 e2).1 (O k ds p e1 e2).2⟩ q3
theorem xs_par3 {x y z : Str} {e1 e2 e3 : Expr} {t1 t2 t3 : TE} {d1 d2 d3 : DE} {px py pz pt pos : Pos} {kt k2 : Nat} {pt2 : Pos} (i j l : Nat) (hN : X.N.Nodup) (h1 : XE X mb js pn e1 t1 d1) (h2 : XE X mb js pn e2 t2 d2) (h3 : XE X mb js pn e3 t3 d3) (hc : X.calm = true := by rfl) (hi : X.N[i]? = some x := by rfl) (hj : X.N[j]? = some y := by rfl) (hl : X.N[l]? = some z := by rfl)
    (hij : i ≠ j := by decide) (hil : i ≠ l := by decide) (hjl : j ≠ l := by decide) (hx : X.env.scope.names.lookup x = some .local := by rfl) (hy : X.env.scope.names.lookup y = some .local := by rfl) (hz : X.env.scope.names.lookup z = some .local := by rfl)
    (hw : swappedStores [.Tuple [.Name x px, .Name y py, .Name z pz] kt pt] (.Tuple [e1, e2, e3] k2 pt2) X.env = pure (some [x, y, z]) := by rfl) (hs : swapsWithSole [.Tuple [.Name x px, .Name y py, .Name z pz] kt pt] (.Tuple [e1, e2, e3] k2 pt2) pos.line X.env = pure false := by rfl)
    (na : starEach [e1, e2, e3] X.env = (false, eval e1 X.env) :: starEach [e2, e3] X.env := by rfl) (nb : starEach [e2, e3] X.env = (false, eval e2 X.env) :: starEach [e3] X.env := by rfl) (nc : starEach [e3] X.env = (false, eval e3 X.env) :: starEach [] X.env := by rfl)
    (ii : i ≠ js := by decide) (jj : j ≠ js := by decide) (ll : l ≠ js := by decide) : XS X mb js pn (.Assign [.Tuple [.Name x px, .Name y py, .Name z pz] kt pt] (.Tuple [e1, e2, e3] k2 pt2) pos) (tPar3 i j l (tCons t1 (tCons t2 (tCons t3 tNil)))) (dPar3 i j l d1 d2 d3) :=
  ⟨ps_par3 hc hN hi hj hl hij hil hjl hx hy hz (pa_cons h1.pe (pa_cons h2.pe (pa_cons h3.pe pa_nil nc) nb) na) hw hs, sim_par3 h1.sm h2.sm h3.sm ii jj ll⟩
/-- a new list of two; a list of one's own by a new list that reads it -/
def dCatN (da db : DE) : DA := fun ρ f P => da ρ f fun x f1 => db ρ f1 fun y f2 => rCatL x y fun z => match z with
  | .list ds => P ds f2
  | _ => False
theorem xn_cat {b : Expr} {tb : TE} {db : DE} (ha : XE X mb js pn a te de) (hb : XE X mb js pn b tb db) : XN X mb js pn (.BinOp a .Add b pos) (tOp rCat te tb) (dCatN de db) :=
  ⟨pe_op op_cat ha.pe hb.pe, fun G H f σ ρ P S q Q k => ha.sm G H f σ ρ _ S q _ fun v d f1 G1 H1 g1 b1 r1 q1 => hb.sm G1 H1 f1 σ ρ _ (S.go g1 b1) q1 _ fun u e f2 G2 H2 g2 b2 r2 q2 =>
    have g := g1.trans g2
    sim_catN (P := fun ds => P ds f2) g.gh (r1.mono g2.gg) r2 q2 Q fun p vs ds H' hp e' r pd => by
      subst e'
      exact k p vs ds f2 G2 _ (g.trans (Go.grow g.gh (same_new hp))) (b2.same (same_new hp)) (none_back g hp) (same_none g.gh hp) upd_same r pd⟩
theorem rpa_scal {K : PySem.W.Frag} {G G' : Hp} : ∀ {vs : List V} {ds : List PyData}, RpA K G vs ds → (∀ d ∈ ds, isScal d = true) → RpA K G' vs ds
  | _, _, .nil, _ => .nil
  | _, _, .cons r1 r2, h => .cons (rp_scal (h _ List.mem_cons_self) r1) (rpa_scal r2 fun d hd => h d (List.mem_cons_of_mem _ hd))
def dSetLB (i : Nat) (dn : DA) : DS := fun D ρ f => dn (vw ρ) f fun ds f1 => (∀ d ∈ ds, isScal d = true) ∧ D.nx (ρ.set i (.l ds)) f1
theorem sim_setLB {K : PySem.W.Frag} {i : Nat} {te : TE} {dn : DA} (h : SimN K mb js pn te dn) (hj : i ≠ js) : SimS K mb js pn (tAsg te (gName i)) (dSetLB i dn) := fun L G0 H0 D E ρ f σ H a q l => by
  obtain ⟨G, S, g0, sL, ow⟩ := a
  exact h _ H f σ _ _ S.borrow q _ fun p vs ds f1 G1 H1 g1 b1 h0 gp hp r q1 => l.nx _ f1 _ H1 (At.newL S g0 sL ow ⟨Same.refl G, (S.gp_same.trans g1.gg).trans g1.gh, g1.hh, g1.hd, fun _ _ h => .inl h, g1.tb⟩ b1 h0 (same_none S.gh h0) hp (rpa_scal r q1.1) hj) q1.2
theorem xs_setLB (i : Nat) {x : Str} {px : Pos} {dn : DA} (hN : X.N.Nodup) (he : XN X mb js pn e te dn) (hi : X.N[i]? = some x := by rfl) (hx : Loc X.env.scope x := by first | exact Or.inl rfl | exact Or.inr rfl) (hj : i ≠ js := by decide) (hs : swapsWith e (some (.Name x px)) pos.line X.env = pure false := by rfl) (hf : X.fn x = true ∨ X.env.scope.names.lookup x = some .local := by first | exact .inl rfl | exact .inr rfl | assumption) :
    XS X mb js pn (.Assign [.Name x px] e pos) (tAsg te (gName i)) (dSetLB i dn) := ⟨ps_set hN hi hx he.pe hs hf, sim_setLB he.sm hj⟩
def rIsBd : R2D := fun x y P => match x, y with
  | .bool i, .bool j => P (.bool (decide (i = j)))
  | _, _ => False
def rNotBd : R2D := fun x y P => match x, y with
  | .bool i, .bool j => P (.bool (!decide (i = j)))
  | _, _ => False
theorem sim_isB {K : PySem.W.Frag} : Sim2 K rIsB rIsBd := fun G H x y d e P gh rx ry q Q k => by
  cases rx <;> first
    | exact q.elim
    | (cases ry <;> first
        | exact q.elim
        | exact ⟨_, _, rfl, rfl, k _ _ G H (Go.refl gh) (.bl _) (by simpa [rIsBd] using q)⟩)
theorem sim_notB {K : PySem.W.Frag} : Sim2 K rNotB rNotBd := fun G H x y d e P gh rx ry q Q k => by
  cases rx <;> first
    | exact q.elim
    | (cases ry <;> first
        | exact q.elim
        | exact ⟨_, _, rfl, rfl, k _ _ G H (Go.refl gh) (.bl _) (by simpa [rNotBd] using q)⟩)
end
/-- what was known is known, item by item -/
def KA : Rho → Rho → Prop
  | [], [] => True
  | s :: r, t :: u => (∀ d, s = .d d → t = .d d) ∧ KA r u
  | _, _ => False
theorem KA.len : ∀ {r u : Rho}, KA r u → u.length = r.length
  | [], [], _ => rfl
  | _ :: _, _ :: _, h => by rw [List.length_cons, List.length_cons, KA.len h.2]
  | [], _ :: _, h => h.elim
  | _ :: _, [], h => h.elim
theorem KA.get : ∀ {r u : Rho}, KA r u → ∀ (i : Nat) (d : PyData), r[i]? = some (SV.d d) → u[i]? = some (SV.d d)
  | _ :: _, _ :: _, h, 0, d, e => by
    simp only [List.getElem?_cons_zero, Option.some.injEq] at e ⊢
    exact h.1 d e
  | _ :: _, _ :: _, h, i + 1, d, e => by
    simp only [List.getElem?_cons_succ] at e ⊢
    exact KA.get h.2 i d e
  | [], [], _, _, _, e => by cases e
  | [], _ :: _, h, _, _, _ => h.elim
  | _ :: _, [], h, _, _, _ => h.elim
theorem keepA {jb : Nat} {r u : Rho} (h : KA r u) : Keep jb r u := ⟨h.len, fun i d _ e => h.get i d e⟩
theorem noL_of {r : Rho} (h : ∀ s ∈ r, (∀ ds, s ≠ SV.l ds) ∧ ∀ P, s ≠ SV.g P) : NoL r := fun i s e => h s (List.mem_of_getElem? e)
end TC
end Dt
namespace Mt
open PySem Dt
def lateL (r : Rule) (ns : List Int) : List Int := (rows r ns).map fun x => x.1 - x.2
def waitN (r : Rule) (ns : List Int) (day : Int) : Int := if day < due r (upto day ns) then 0 else if r.kd = .pile then (day - due r (upto day ns)) / r.ev + 1 else 1
def rg3I (a b c : Int) : List Int := (List.range (stepN a b c)).map fun (i : Nat) => a + (i : Int) * c
theorem rg3D_ints (a b c : Int) : rg3D a b c = intsD (rg3I a b c) := by
  unfold rg3D rg3I intsD
  rw [List.map_map]
  rfl
theorem rg3I_len (a b c : Int) : (rg3I a b c).length = stepN a b c := by
  unfold rg3I
  rw [List.length_map, List.length_range]
def skipR (r : Rule) (x : Int × Int) : List Int := rg3I (x.2 + r.ev) (x.1 + 1) r.ev
def skipL (r : Rule) (ns : List Int) : List Int := if r.kd = .fixed then (rows r ns).flatMap (skipR r) else []
theorem skip_len (r : Rule) (he : 1 ≤ r.ev) (hk : r.kd = .fixed) : ∀ (ns : List Int) (u : Int), (∀ x ∈ ns, x ≤ 1000000) → ((pl r ns u).1.flatMap (skipR r)).length ≤ (1000001 - u).toNat
  | [], u, _ => by
    show 0 ≤ _
    omega
  | d :: ds, u, h => by
    have hd := h d List.mem_cons_self
    have h' := fun x hx => h x (List.mem_cons_of_mem _ hx)
    rw [pl_cons]
    split
    · rename_i hu
      have ih := skip_len r he hk ds (nxt r u d) h'
      have gt := nxt_gt (u := u) (d := d) he (by rw [hk]; decide)
      rw [List.flatMap_cons, List.length_append, skipR, rg3I_len]
      simp only []
      unfold stepN
      split
      · have := Int.ediv_le_self r.ev (show (0 : Int) ≤ d + 1 - (u + r.ev) - 1 by omega)
        omega
      · omega
    · exact skip_len r he hk ds u h'
def wLate : List PyData → (List PyData → Prop) → Prop := wN (fun a : Rule × List Int => a.1.Ok ∧ Log 80 a.2) (fun a => [ruleD a.1, logD a.2]) (fun a => intsD (lateL a.1 a.2))
def wNextDue : RCD := wF (fun a : Rule × List Int => a.1.Ok ∧ Log 80 a.2) (fun a => [ruleD a.1, logD a.2]) (fun a => .int (due a.1 a.2))
def wCheckDay : RCD := wF (fun a : PyData => inRg a 0 1000000000000000 = true) (fun a => [a]) (fun _ => .none)
def wWaiting : RCD := wF (fun a : Rule × List Int × Int => a.1.Ok ∧ Log 80 a.2.1 ∧ 0 ≤ a.2.2 ∧ a.2.2 ≤ 1000000000000000) (fun a => [ruleD a.1, logD a.2.1, .int a.2.2]) (fun a => .int (waitN a.1 a.2.1 a.2.2))
def wSkipped : List PyData → (List PyData → Prop) → Prop := wN (fun a : Rule × List Int => a.1.Ok ∧ Log 80 a.2) (fun a => [ruleD a.1, logD a.2]) (fun a => intsD (skipL a.1 a.2))
theorem inRg_ok {i lo hi : Int} (h1 : lo ≤ i) (h2 : i ≤ hi) : inRg (.int i) lo hi = true := by
  unfold inRg
  simp [h1, h2]
theorem upto_log {most : Nat} {ns : List Int} (h : Log most ns) (d : Int) : Log most (upto d ns) := by
  refine ⟨upto_pw h.1, Nat.le_trans (List.length_filter_le _ _) h.2.1, fun x hx => h.2.2 x ?_⟩
  exact (List.mem_filter.mp hx).1
theorem kd_or (r : Rule) : r.kd = .after ∨ r.kd = .fixed ∨ r.kd = .pile := by
  cases r.kd
  · exact .inl rfl
  · exact .inr (.inl rfl)
  · exact .inr (.inr rfl)
/-- due days never fall -/
theorem pl_ge (r : Rule) (he : 1 ≤ r.ev) (hk : r.kd = .fixed) : ∀ (ns : List Int) (u : Int), On r u → ∀ x ∈ (pl r ns u).1, u ≤ x.2
  | [], u, _, x, hx => by cases hx
  | d :: ds, u, o, x, hx => by
    rw [pl_cons] at hx
    split at hx
    · rename_i h
      rcases List.mem_cons.mp hx with rfl | hx
      · exact Int.le_refl _
      · have h1 := pl_ge r he hk ds _ (nxt_on (d := d) o) x hx
        have h2 := nxt_lo he h o
        omega
    · exact pl_ge r he hk ds u o x hx
/-- the next grid day by going along -/
theorem nxt_walk (r : Rule) (he : 1 ≤ r.ev) (hk : r.kd = .fixed) {u v d : Int} (o : On r v) (h1 : d < v) (h2 : v ≤ d + r.ev) : v = nxt r u d := by
  have h3 := nxt_grid (u := u) he hk (o hk) h1
  have o' : On r (v - r.ev) := fun _ => by
    have := Int.dvd_sub (o hk) (Int.dvd_refl r.ev)
    rwa [show v - r.st - r.ev = v - r.ev - r.st by omega] at this
  have h4 := nxt_lo (u := v - r.ev) (d := d) he (by omega) o'
  have h5 : nxt r (v - r.ev) d = nxt r u d := by
    rw [grid_eq hk, grid_eq hk]
  omega
end Mt
namespace Mt
open PySem Dt
theorem div_uniq {x e q : Int} (he : 0 < e) (h1 : q * e ≤ x) (h2 : x < (q + 1) * e) : x / e = q := by
  have a := (Int.le_ediv_iff_mul_le he).mpr h1
  have b := Int.ediv_lt_of_lt_mul he h2
  omega
theorem cut_ints (ns : List Int) (l h : Option Int) : ∃ ms, cutD (intsD ns) l h = intsD ms ∧ ∀ x ∈ ms, x ∈ ns := by
  refine ⟨(ns.drop (HT.sIx (intsD ns).length 0 l)).take (HT.sIx (intsD ns).length (intsD ns).length h - HT.sIx (intsD ns).length 0 l), ?_, fun x hx => List.mem_of_mem_drop (List.mem_of_mem_take hx)⟩
  unfold cutD intsD
  rw [List.map_take, List.map_drop]
theorem cut_most (ns : List Int) (l h : Option Int) : (cutD (intsD ns) l h).length ≤ ns.length := by
  unfold cutD
  rw [List.length_take, List.length_drop, ints_len]
  omega
theorem cut_butlast (ds : List PyData) (x : PyData) : cutD (ds ++ [x]) none (some (-1)) = ds := by
  unfold cutD
  rw [HT.sIx_none]
  have e : HT.sIx (ds ++ [x]).length (ds ++ [x]).length (some (-1)) = ds.length := by
    show (if (-1 : Int) < 0 then ((-1 : Int) + ((ds ++ [x]).length : Int)).toNat else min (-1 : Int).toNat (ds ++ [x]).length) = ds.length
    rw [if_pos (by decide), List.length_append, List.length_singleton]
    omega
  rw [e, List.drop_zero, Nat.sub_zero, List.take_left]
theorem plI (n : Nat) (i : Int) : PlN (n + 1) (.int i) := .inl rfl
theorem plL {n : Nat} {ns : List Int} (h : ns.length < 16777216) : PlN (n + 2) (.list (intsD ns)) := .inr ⟨intsD ns, .inl rfl, by rw [ints_len]; exact h, fun x hx => by
  obtain ⟨i, _, rfl⟩ := List.mem_map.mp hx
  exact plI n i⟩
def lastOr (ns : List Int) : Int := (ns.getLast?).getD 0
theorem lastOr_mem {ns : List Int} (h : ns ≠ []) : lastOr ns ∈ ns ∧ ns.getLast? = some (lastOr ns) := by
  unfold lastOr
  cases hl : ns.getLast? with
  | none => exact absurd (List.getLast?_eq_none_iff.mp hl) h
  | some l => exact ⟨List.mem_of_getLast? hl, rfl⟩
theorem lastOr_nil : lastOr [] = 0 := rfl
theorem lastOr_bd {most : Nat} {ns : List Int} (h : Log most ns) {b : Int} (hb : ∀ x ∈ ns, x ≤ b) (b0 : 0 ≤ b) : 0 ≤ lastOr ns ∧ lastOr ns ≤ b := by
  by_cases e : ns = []
  · subst e
    rw [lastOr_nil]
    omega
  · have h1 := (lastOr_mem e).1
    exact ⟨(h.2.2 _ h1).1, hb _ h1⟩
/-- log[-1] if log != () else 0 -/
theorem last_if (ns : List Int) {A : PyData → Prop} (h : A (.int (lastOr ns))) : SeqAt.shaped (.tuple (intsD ns)) = true ∧ SeqAt.shaped (.tuple []) = true ∧ if (!PyData.eqv (.tuple (intsD ns)) (.tuple [])) = true then (match atD (intsD ns) (-1) with
    | some d => A d
    | none => False) else A (.int 0) := by
  refine ⟨shT ns, shT [], ?_⟩
  have e := eqvT ns []
  rw [show intsD [] = ([] : List PyData) from rfl] at e
  simp only [e]
  by_cases c : ns = []
  · subst c
    rw [if_neg (by simp)]
    exact h
  · rw [if_pos (by simp [c]), atD_last, (lastOr_mem c).2]
    exact h
/-- the days between, on the grid -/
def gridF (r : Rule) (u : Int) (j : Nat) : List Int := if r.kd = .fixed then ((List.range j).map fun (k : Nat) => u + 1 + (k : Int)).filter (fun x => decide ((x - r.st) % r.ev = 0)) else []
theorem gridF_succ (r : Rule) (u : Int) (j : Nat) : gridF r u (j + 1) = if r.kd = .fixed ∧ (u + 1 + (j : Int) - r.st) % r.ev = 0 then gridF r u j ++ [u + 1 + (j : Int)] else gridF r u j := by
  unfold gridF
  by_cases hk : r.kd = .fixed
  · rw [if_pos hk, if_pos hk, List.range_succ, List.map_append, List.filter_append]
    by_cases h : (u + 1 + (j : Int) - r.st) % r.ev = 0
    · rw [if_pos ⟨hk, h⟩]
      congr 1
      simp [h]
    · rw [if_neg (fun z => h z.2)]
      simp [h]
  · rw [if_neg hk, if_neg hk, if_neg (fun z => hk z.1)]
theorem nat_div_succ (j e : Nat) (he : 0 < e) : (j + 1) / e = if (j + 1) % e = 0 then j / e + 1 else j / e := by
  have h1 := Nat.div_add_mod j e
  have h2 := Nat.mod_lt j he
  have h3 := Nat.div_add_mod (j + 1) e
  have h4 := Nat.mod_lt (j + 1) he
  by_cases c : j % e + 1 = e
  · have e1 : (j + 1) / e = j / e + 1 := by
      refine Nat.div_eq_of_lt_le ?_ ?_
      · rw [Nat.add_mul, Nat.one_mul, Nat.mul_comm]
        omega
      · rw [Nat.add_mul, Nat.add_mul, Nat.one_mul, Nat.mul_comm]
        omega
    rw [e1, Nat.mul_add, Nat.mul_one] at h3
    rw [if_pos (by omega), e1]
  · have e1 : (j + 1) / e = j / e := by
      refine Nat.div_eq_of_lt_le ?_ ?_
      · rw [Nat.mul_comm]
        omega
      · rw [Nat.add_mul, Nat.one_mul, Nat.mul_comm]
        omega
    rw [e1] at h3
    rw [if_neg (by omega), e1]
theorem gridF_eq (r : Rule) (he : 1 ≤ r.ev) (hk : r.kd = .fixed) {u : Int} (o : On r u) : ∀ j : Nat, gridF r u j = (List.range (j / r.ev.toNat)).map fun (i : Nat) => u + r.ev + (i : Int) * r.ev
  | 0 => by
    unfold gridF
    rw [if_pos hk, Nat.zero_div]
    rfl
  | j + 1 => by
    have ih := gridF_eq r he hk o j
    have hp : 0 < r.ev.toNat := by omega
    have ec : ((r.ev.toNat : Nat) : Int) = r.ev := by omega
    have key : (u + 1 + (j : Int) - r.st) % r.ev = 0 ↔ (j + 1) % r.ev.toNat = 0 := by
      obtain ⟨q, hq⟩ := o hk
      have e1 : u + 1 + (j : Int) - r.st = ((j + 1 : Nat) : Int) + r.ev * q := by
        rw [← hq]
        omega
      rw [e1, Int.add_mul_emod_self_left]
      have e2 : (((j + 1 : Nat) : Int) % r.ev) = (((j + 1) % r.ev.toNat : Nat) : Int) := by
        rw [Int.natCast_emod, ec]
      rw [e2]
      omega
    rw [gridF_succ, nat_div_succ j _ hp, ih]
    by_cases c : (j + 1) % r.ev.toNat = 0
    · rw [if_pos ⟨hk, key.mpr c⟩, if_pos c, List.range_succ, List.map_append]
      congr 1
      have h3 := Nat.div_add_mod (j + 1) r.ev.toNat
      rw [nat_div_succ j _ hp, if_pos c, c, Nat.add_zero, Nat.mul_add, Nat.mul_one] at h3
      have h4 : (r.ev.toNat : Int) * ((j / r.ev.toNat : Nat) : Int) + r.ev.toNat = (j : Int) + 1 := by
        rw [← Int.natCast_mul, ← Int.natCast_add, h3]
        rfl
      rw [ec] at h4
      simp only [List.map_cons, List.map_nil]
      rw [Int.mul_comm ((j / r.ev.toNat : Nat) : Int)]
      congr 1
      omega
    · rw [if_neg (fun z => c (key.mp z.2)), if_neg c]
theorem stepN_eq (u d e : Int) (he : 1 ≤ e) (h : u ≤ d) : stepN (u + e) (d + 1) e = (d - u).toNat / e.toNat := by
  have ec : ((e.toNat : Nat) : Int) = e := by omega
  have key : (((d - u).toNat / e.toNat : Nat) : Int) = (d - u) / e := by
    rw [Int.natCast_ediv, ec]
    congr 1
    omega
  unfold stepN
  split
  · rw [show d + 1 - (u + e) - 1 = (d - u) + (-1) * e by omega, Int.add_mul_ediv_right _ _ (by omega)]
    have := Int.ediv_nonneg (a := d - u) (b := e) (by omega) (by omega)
    omega
  · have h2 : (d - u) / e = 0 := Int.ediv_eq_zero_of_lt (by omega) (by omega)
    omega
theorem gridF_skip (r : Rule) (he : 1 ≤ r.ev) (hk : r.kd = .fixed) {u d : Int} (o : On r u) (h : u ≤ d) : gridF r u (d - u).toNat = skipR r (d, u) := by
  rw [gridF_eq r he hk o]
  unfold skipR rg3I
  simp only []
  rw [stepN_eq u d r.ev he h]
theorem gridF_len (r : Rule) (u : Int) : ∀ {i j : Nat}, i ≤ j → (gridF r u i).length ≤ (gridF r u j).length := by
  intro i j h
  induction h with
  | refl => exact Nat.le_refl _
  | step h ih =>
    rw [gridF_succ]
    split
    · rw [List.length_append]
      omega
    · exact ih
theorem pl_on (r : Rule) : ∀ (ns : List Int) (u : Int), On r u → ∀ x ∈ (pl r ns u).1, On r x.2
  | [], u, _, x, hx => by cases hx
  | d :: ds, u, o, x, hx => by
    rw [pl_cons] at hx
    split at hx
    · rcases List.mem_cons.mp hx with rfl | hx
      · exact o
      · exact pl_on r ds _ (nxt_on o) x hx
    · exact pl_on r ds u o x hx
theorem pl_lo (r : Rule) (he : 1 ≤ r.ev) : ∀ (ns : List Int) (u : Int), On r u → ∀ x ∈ (pl r ns u).1, u ≤ x.2
  | [], u, _, x, hx => by cases hx
  | d :: ds, u, o, x, hx => by
    rw [pl_cons] at hx
    split at hx
    · rename_i h
      rcases List.mem_cons.mp hx with rfl | hx
      · exact Int.le_refl _
      · have h1 := pl_lo r he ds _ (nxt_on (d := d) o) x hx
        have h2 := nxt_lo he h o
        omega
    · exact pl_lo r he ds u o x hx
/-- all grid days: done and skipped -/
theorem fixed_count (r : Rule) (he : 1 ≤ r.ev) (hk : r.kd = .fixed) : ∀ (ns : List Int) (u : Int), On r u → (pl r ns u).2 = u + r.ev * (((pl r ns u).1.length + ((pl r ns u).1.flatMap (skipR r)).length : Nat) : Int)
  | [], u, _ => by
    show u = u + r.ev * 0
    omega
  | d :: ds, u, o => by
    rw [pl_cons]
    split
    · rename_i h
      have ih := fixed_count r he hk ds _ (nxt_on (d := d) o)
      simp only [List.flatMap_cons, List.length_append, List.length_cons]
      rw [ih]
      have e1 : nxt r u d = u + r.ev * (((skipR r (d, u)).length : Nat) : Int) + r.ev := by
        unfold skipR
        rw [rg3I_len]
        simp only []
        have ec : ((r.ev.toNat : Nat) : Int) = r.ev := by omega
        rw [stepN_eq u d r.ev he h, Int.natCast_ediv, ec, show (((d - u).toNat : Nat) : Int) = d - u by omega]
        obtain ⟨q, hq⟩ := o hk
        rw [grid_eq hk, show d - r.st = (d - u) + r.ev * q by omega, Int.add_mul_ediv_left _ _ (by omega), Int.mul_add, Int.mul_add, ← hq]
        omega
      rw [e1]
      simp only [Int.natCast_add, Int.mul_add]
      omega
    · exact fixed_count r he hk ds u o
end Mt
namespace Mt
open PySem Dt
/-- how far apart two runs may be -/
def Near (r : Rule) (ns : List Int) (a b : Int) : Prop := a ≤ b ∧ (if r.kd = .pile then b ≤ a + r.ev else ∀ x ∈ ns, a ≤ x → b ≤ x + r.ev)
theorem two (r : Rule) (he : 1 ≤ r.ev) : ∀ (ns : List Int) (a b : Int), ns.Pairwise (· < ·) → On r a → On r b → Near r ns a b → ln r ns b ≤ ln r ns a ∧ ln r ns a ≤ ln r ns b + 1
  | [], a, b, _, _, _, _ => by
    rw [ln_nil, ln_nil]
    omega
  | x :: xs, a, b, hp, oa, ob, hn => by
    have hp' := List.Pairwise.of_cons hp
    have hlt : ∀ y ∈ xs, x < y := fun y hy => List.rel_of_pairwise_cons hp hy
    obtain ⟨hab, hc⟩ := hn
    by_cases ha : a ≤ x
    · have oa' := nxt_on (d := x) oa
      rw [ln_yes r xs ha]
      by_cases hb : b ≤ x
      · have ob' := nxt_on (d := x) ob
        rw [ln_yes r xs hb]
        have : Near r xs (nxt r a x) (nxt r b x) := by
          rcases kd_or r with hk | hk | hk
          · have e1 : nxt r a x = nxt r b x := by
              unfold nxt
              rw [hk]
            refine ⟨by omega, ?_⟩
            rw [if_neg (by rw [hk]; decide)]
            intro y _ h
            omega
          · have e1 : nxt r a x = nxt r b x := by rw [grid_eq hk, grid_eq hk]
            refine ⟨by omega, ?_⟩
            rw [if_neg (by rw [hk]; decide)]
            intro y _ h
            omega
          · have e1 : nxt r a x = a + r.ev := by
              unfold nxt
              rw [hk]
            have e2 : nxt r b x = b + r.ev := by
              unfold nxt
              rw [hk]
            rw [if_pos hk] at hc
            refine ⟨by omega, ?_⟩
            rw [if_pos hk]
            omega
        have := two r he xs _ _ hp' oa' ob' this
        omega
      · rw [ln_no r xs hb]
        have : Near r xs b (nxt r a x) := by
          rcases kd_or r with hk | hk | hk
          · have e1 : nxt r a x = x + r.ev := by
              unfold nxt
              rw [hk]
            rw [if_neg (by rw [hk]; decide)] at hc
            have := hc x List.mem_cons_self ha
            refine ⟨by omega, ?_⟩
            rw [if_neg (by rw [hk]; decide)]
            intro y hy h
            have := hlt y hy
            omega
          · rw [if_neg (by rw [hk]; decide)] at hc
            have h1 := hc x List.mem_cons_self ha
            have e1 := nxt_walk r he hk (u := a) ob (show x < b by omega) h1
            refine ⟨by omega, ?_⟩
            rw [if_neg (by rw [hk]; decide)]
            intro y _ h
            omega
          · have e1 : nxt r a x = a + r.ev := by
              unfold nxt
              rw [hk]
            rw [if_pos hk] at hc
            refine ⟨by omega, ?_⟩
            rw [if_pos hk]
            omega
        have := two r he xs _ _ hp' ob oa' this
        omega
    · rw [ln_no r xs ha, ln_no r xs (by omega)]
      refine two r he xs a b hp' oa ob ⟨hab, ?_⟩
      split
      · rename_i hk
        rw [if_pos hk] at hc
        exact hc
      · rename_i hk
        rw [if_neg hk] at hc
        exact fun y hy => hc y (List.mem_cons_of_mem _ hy)
theorem due_on' (r : Rule) : ∀ (ns : List Int) (u : Int), On r u → On r (pl r ns u).2
  | [], _, o => o
  | d :: ds, u, o => by
    rw [pl_cons]
    split
    · exact due_on' r ds _ (nxt_on o)
    · exact due_on' r ds u o
theorem ln_app (r : Rule) (p q : List Int) (u : Int) : ln r (p ++ q) u = ln r p u + ln r q (pl r p u).2 := by
  unfold ln
  rw [pl_append, List.length_append]
/-- one day more: at most one time more -/
theorem one_more (r : Rule) (he : 1 ≤ r.ev) (p q : List Int) (d : Int) (hq : q.Pairwise (· < ·)) (hd : ∀ x ∈ q, d < x) : (done r (p ++ q)).length ≤ (done r (p ++ d :: q)).length ∧ (done r (p ++ d :: q)).length ≤ (done r (p ++ q)).length + 1 := by
  rw [done_ln, done_ln, ln_app, ln_app]
  have ov : On r (pl r p r.st).2 := due_on' r p r.st (on_st r)
  generalize (pl r p r.st).2 = v at ov ⊢
  by_cases h : v ≤ d
  · rw [ln_yes r q h]
    have lo := nxt_lo he h ov
    have hi := nxt_hi he h
    have : Near r q v (nxt r v d) := by
      refine ⟨by omega, ?_⟩
      split
      · rename_i hk
        have : nxt r v d = v + r.ev := by
          unfold nxt
          rw [hk]
        omega
      · intro x hx _
        have := hd x hx
        omega
    have := two r he q v (nxt r v d) hq ov (nxt_on ov) this
    omega
  · rw [ln_no r q h]
    omega
end Mt
namespace Mt
open PySem Dt
def wDaysOf : RCD := wF (fun a : Rule × List Int => 1 ≤ a.1.ev ∧ a.2.length ≤ 1000000) (fun a => [ruleD a.1, logD a.2]) (fun a => logD (done a.1 a.2))
def wLDone : List PyData → (List PyData → Prop) → Prop := wN (fun a : Rule × List Int => 1 ≤ a.1.ev ∧ a.2.length ≤ 1000000) (fun a => [ruleD a.1, logD a.2]) (fun a => intsD (done a.1 a.2))
def del (i : Nat) (ns : List Int) : List Int := ns.take i ++ ns.drop (i + 1)
def isU (r : Rule) (ns : List Int) (i : Nat) : Bool := decide ((done r (del i ns)).length = (done r ns).length)
def usel (r : Rule) (ns : List Int) : List Int := ((List.range ns.length).filter (isU r ns)).map fun i => ns.getD i 0
def wUseless : List PyData → (List PyData → Prop) → Prop := wN (fun a : Rule × List Int => a.1.Ok ∧ Log 80 a.2) (fun a => [ruleD a.1, logD a.2]) (fun a => intsD (usel a.1 a.2))
theorem cut_take (ns : List Int) (i : Nat) : cutD (intsD ns) none (some (i : Int)) = intsD (ns.take i) := by
  unfold cutD
  rw [HT.sIx_none, HT.sIx_nat, List.drop_zero, Nat.sub_zero]
  unfold intsD
  rw [← List.map_take, List.length_map]
  congr 1
  by_cases h : i ≤ ns.length
  · rw [Nat.min_eq_left h]
  · rw [Nat.min_eq_right (by omega), List.take_of_length_le (Nat.le_refl _), List.take_of_length_le (by omega)]
theorem cut_drop (ns : List Int) (i : Nat) : cutD (intsD ns) (some (i : Int)) none = intsD (ns.drop i) := by
  unfold cutD
  rw [HT.sIx_none, HT.sIx_nat]
  unfold intsD
  rw [← List.map_drop, ← List.map_take, List.length_map]
  congr 1
  by_cases h : i ≤ ns.length
  · rw [Nat.min_eq_left h, List.take_of_length_le (by rw [List.length_drop]; exact Nat.le_refl _)]
  · rw [Nat.min_eq_right (by omega), List.drop_of_length_le (Nat.le_refl _), List.drop_of_length_le (by omega), List.take_nil]
theorem del_len (i : Nat) (ns : List Int) : (del i ns).length ≤ ns.length := by
  unfold del
  rw [List.length_append, List.length_take, List.length_drop]
  omega
theorem del_sub (i : Nat) (ns : List Int) : (del i ns).Sublist ns := by
  have h := (List.take_append_drop i ns)
  have h2 : (ns.take i ++ ns.drop (i + 1)).Sublist (ns.take i ++ ns.drop i) := by
    refine (List.Sublist.refl _).append ?_
    rw [← List.drop_drop]
    exact List.drop_sublist 1 _
  rw [h] at h2
  exact h2
theorem split_at {i : Nat} {ns : List Int} (h : i < ns.length) : ns = ns.take i ++ ns.getD i 0 :: ns.drop (i + 1) := by
  have e : ns.getD i 0 = ns[i] := by simp [List.getD, h]
  rw [e, ← List.drop_eq_getElem_cons h, List.take_append_drop]
theorem one_less (r : Rule) (he : 1 ≤ r.ev) {ns : List Int} (hp : ns.Pairwise (· < ·)) {i : Nat} (h : i < ns.length) : (done r (del i ns)).length ≤ (done r ns).length ∧ (done r ns).length ≤ (done r (del i ns)).length + 1 := by
  have e := split_at h
  have hp2 := hp
  rw [e, List.pairwise_append] at hp2
  have h2 := List.pairwise_cons.mp hp2.2.1
  have := one_more r he (ns.take i) (ns.drop (i + 1)) (ns.getD i 0) h2.2 h2.1
  rw [← e] at this
  exact this
theorem srt_uniq : ∀ {a b : List Int}, a.Perm b → a.Pairwise (· ≤ ·) → b.Pairwise (· ≤ ·) → a = b
  | [], b, h, _, _ => by rw [List.nil_perm.mp h]
  | x :: xs, [], h, _, _ => by
    have := h.length_eq
    simp at this
  | x :: xs, y :: ys, h, ha, hb => by
    have h1 : x ∈ y :: ys := h.subset List.mem_cons_self
    have h2 : y ∈ x :: xs := h.symm.subset List.mem_cons_self
    have hx := (List.pairwise_cons.mp ha)
    have hy := (List.pairwise_cons.mp hb)
    have e : x = y := by
      rcases List.mem_cons.mp h1 with e | h1
      · exact e
      · rcases List.mem_cons.mp h2 with e | h2
        · exact e.symm
        · have := hx.1 y h2
          have := hy.1 x h1
          omega
    subst e
    rw [srt_uniq (List.Perm.cons_inv h) hx.2 hy.2]
theorem split_day {d : Int} : ∀ {ns : List Int}, ns.Pairwise (· < ·) → d ∉ ns → ∃ p q, ns = p ++ q ∧ (∀ x ∈ p, x < d) ∧ ∀ x ∈ q, d < x
  | [], _, _ => ⟨[], [], rfl, (fun _ h => by cases h), (fun _ h => by cases h)⟩
  | x :: xs, hp, hd => by
    have h1 := List.pairwise_cons.mp hp
    by_cases c : x < d
    · obtain ⟨p, q, e, a, b⟩ := split_day h1.2 (fun z => hd (List.mem_cons_of_mem _ z))
      refine ⟨x :: p, q, by rw [e]; rfl, fun y hy => ?_, b⟩
      rcases List.mem_cons.mp hy with rfl | hy
      · exact c
      · exact a y hy
    · have hne : d ≠ x := fun z => hd (by rw [z]; exact List.mem_cons_self)
      refine ⟨[], x :: xs, rfl, (fun _ h => by cases h), fun y hy => ?_⟩
      rcases List.mem_cons.mp hy with rfl | hy
      · omega
      · have := h1.1 y hy
        omega
theorem put_in {ns ns' p q : List Int} {d : Int} (hp : ns.Pairwise (· < ·)) (e : ns = p ++ q) (a : ∀ x ∈ p, x < d) (b : ∀ x ∈ q, d < x) (h : ns'.Perm (ns ++ [d])) (hs : ns'.Pairwise (· ≤ ·)) : ns' = p ++ d :: q ∧ ns'.Pairwise (· < ·) := by
  rw [e, List.pairwise_append] at hp
  have hlt : (p ++ d :: q).Pairwise (· < ·) := by
    rw [List.pairwise_append]
    refine ⟨hp.1, List.pairwise_cons.mpr ⟨b, hp.2.1⟩, fun x hx y hy => ?_⟩
    rcases List.mem_cons.mp hy with rfl | hy
    · exact a x hx
    · exact hp.2.2 x hx y hy
  have e2 : ns' = p ++ d :: q := by
    refine srt_uniq (h.trans ?_) hs (hlt.imp fun h => by omega)
    rw [e, List.append_assoc]
    refine List.Perm.append_left p ?_
    exact List.perm_append_comm
  exact ⟨e2, by rw [e2]; exact hlt⟩
theorem upto_app (t : Int) (p q : List Int) : upto t (p ++ q) = upto t p ++ upto t q := List.filter_append ..
/-- .. up to any day -/
theorem one_more_upto (r : Rule) (he : 1 ≤ r.ev) (p q : List Int) (d t : Int) (hp : (p ++ d :: q).Pairwise (· < ·)) :
    ((upto t (done r (p ++ d :: q))).length : Int) - (upto t (done r (p ++ q))).length ∈ [(0 : Int), 1] := by
  have hp2 := List.pairwise_append.mp hp
  have hp3 := List.pairwise_cons.mp hp2.2.1
  have hpq : (p ++ q).Pairwise (· < ·) := List.pairwise_append.mpr ⟨hp2.1, hp3.2, fun x hx y hy => hp2.2.2 x hx y (List.mem_cons_of_mem _ hy)⟩
  rw [done_upto r t hp, done_upto r t hpq, upto_app, upto_app]
  by_cases c : d ≤ t
  · have e : upto t (d :: q) = d :: upto t q := by
      unfold upto
      rw [List.filter_cons_of_pos (by exact decide_eq_true c)]
    rw [e]
    have := one_more r he (upto t p) (upto t q) d (upto_pw hp3.2) (fun x hx => hp3.1 x (List.mem_filter.mp hx).1)
    simp only [List.mem_cons, List.not_mem_nil, or_false]
    omega
  · have e : upto t (d :: q) = upto t q := by
      unfold upto
      rw [List.filter_cons_of_neg (by simpa using c)]
    rw [e]
    simp
theorem enumD_range : ∀ (k : Nat) (ns : List Int), enumD k (intsD ns) = (List.range ns.length).map fun i => .tuple [.int ((k + i : Nat) : Int), .int (ns.getD i 0)]
  | _, [] => rfl
  | k, n :: ns => by
    show .tuple [.int (k : Int), .int n] :: enumD (k + 1) (intsD ns) = _
    rw [enumD_range (k + 1) ns, List.length_cons, List.range_succ_eq_map, List.map_cons, List.map_map]
    refine List.cons_eq_cons.mpr ⟨rfl, List.map_congr_left fun i _ => ?_⟩
    show PyData.tuple [.int ((k + 1 + i : Nat) : Int), .int (ns.getD i 0)] = .tuple [.int ((k + (i + 1) : Nat) : Int), .int ((n :: ns).getD (i + 1) 0)]
    rw [show k + 1 + i = k + (i + 1) by omega]
    rfl
theorem usel_snoc (r : Rule) (ns : List Int) (j : Nat) : (((List.range (j + 1)).filter (isU r ns)).map fun i => ns.getD i 0) = if isU r ns j = true then (((List.range j).filter (isU r ns)).map fun i => ns.getD i 0) ++ [ns.getD j 0] else (((List.range j).filter (isU r ns)).map fun i => ns.getD i 0) := by
  rw [List.range_succ, List.filter_append]
  by_cases h : isU r ns j = true
  · rw [if_pos h, List.filter_cons_of_pos h, List.map_append]
    rfl
  · rw [if_neg h, List.filter_cons_of_neg h, List.filter_nil, List.append_nil]
theorem del_log {n i : Nat} {ns : List Int} (h : Log n ns) : Log n (del i ns) := ⟨h.1.sublist (del_sub i ns), Nat.le_trans (del_len i ns) h.2.1, fun x hx => h.2.2 x ((del_sub i ns).subset hx)⟩
theorem isU_int (r : Rule) (ns : List Int) (i : Nat) : decide (((done r (del i ns)).length : Int) = (done r ns).length) = isU r ns i := by
  unfold isU
  by_cases c : (done r (del i ns)).length = (done r ns).length
  · rw [decide_eq_true c, decide_eq_true (by omega)]
  · rw [decide_eq_false c, decide_eq_false (by omega)]
theorem atD_nat (ns : List Int) {i : Nat} (h : i < ns.length) : atD (intsD ns) (i : Int) = some (.int (ns.getD i 0)) := by
  unfold atD
  rw [if_pos (by omega), Int.toNat_natCast]
  unfold intsD
  rw [List.getElem?_map, List.getElem?_eq_getElem h]
  simp [List.getD, h]
theorem drop_ints {ns : List Int} {i : Nat} {x : PyData} {xs : List PyData} (h : x :: xs = enumD i (intsD (ns.drop i))) : ∃ hi : i < ns.length, x = .tuple [.int (i : Int), .int ns[i]] ∧ xs = enumD (i + 1) (intsD (ns.drop (i + 1))) := by
  by_cases c : i < ns.length
  · refine ⟨c, ?_⟩
    rw [List.drop_eq_getElem_cons c] at h
    have h' : x :: xs = .tuple [.int (i : Int), .int ns[i]] :: enumD (i + 1) (intsD (ns.drop (i + 1))) := h
    cases h'
    exact ⟨rfl, rfl⟩
  · rw [List.drop_of_length_le (by omega)] at h
    cases h
theorem set_uniq : ∀ {a b : List Int}, a.Pairwise (· < ·) → b.Pairwise (· < ·) → (∀ k, k ∈ a ↔ k ∈ b) → a = b
  | [], [], _, _, _ => rfl
  | [], y :: ys, _, _, h => by
    have := (h y).mpr List.mem_cons_self
    cases this
  | x :: xs, [], _, _, h => by
    have := (h x).mp List.mem_cons_self
    cases this
  | x :: xs, y :: ys, ha, hb, h => by
    have h1 := List.pairwise_cons.mp ha
    have h2 := List.pairwise_cons.mp hb
    have e : x = y := by
      have m1 := (h x).mp List.mem_cons_self
      have m2 := (h y).mpr List.mem_cons_self
      rcases List.mem_cons.mp m1 with e | m1
      · exact e
      · rcases List.mem_cons.mp m2 with e | m2
        · exact e.symm
        · have := h1.1 y m2
          have := h2.1 x m1
          omega
    subst e
    rw [set_uniq h1.2 h2.2 fun k => ?_]
    constructor
    · intro hk
      rcases List.mem_cons.mp ((h k).mp (List.mem_cons_of_mem _ hk)) with e | hk2
      · have := h1.1 k hk
        omega
      · exact hk2
    · intro hk
      rcases List.mem_cons.mp ((h k).mpr (List.mem_cons_of_mem _ hk)) with e | hk2
      · have := h2.1 k hk
        omega
      · exact hk2
end Mt
namespace Mt
open PySem Dt
/-- the first day from d on, on which somebody is there -/
def fT (b s d : Int) : Int := if d ≤ b then b else d + (b - d) % s
section
variable {b s d x v w : Int}
theorem fT_ge (hs : 0 < s) : d ≤ fT b s d ∧ b ≤ fT b s d := by
  unfold fT
  have := Int.emod_nonneg (b - d) (show s ≠ 0 by omega)
  split <;> omega
theorem fT_on : s ∣ fT b s d - b := by
  unfold fT
  split
  · exact ⟨0, by rw [Int.mul_zero]; omega⟩
  · have h := Int.emod_add_mul_ediv (b - d) s
    exact ⟨-((b - d) / s), by rw [Int.mul_neg]; omega⟩
theorem fT_lt (hs : 0 < s) (h : b < fT b s d) : b < d ∧ fT b s d < d + s := by
  unfold fT at h ⊢
  have := Int.emod_lt_of_pos (b - d) hs
  split
  · rename_i c
    rw [if_pos c] at h
    omega
  · omega
/-- two such days, one behind the other -/
theorem on_gap (hs : 0 < s) (hv : s ∣ v - b) (hw : s ∣ w - b) (h : v < w) : v + s ≤ w := by
  have h1 : s ∣ w - v := by
    have := Int.dvd_sub hw hv
    rwa [show w - b - (v - b) = w - v by omega] at this
  have := Int.le_of_dvd (by omega) h1
  omega
theorem on_add (hv : s ∣ v - b) (k : Int) : s ∣ v + k * s - b := by
  obtain ⟨q, e⟩ := hv
  exact ⟨q + k, by rw [Int.mul_add, ← e, Int.mul_comm s k]; omega⟩
theorem on_step (hv : s ∣ v - b) : s ∣ v + s - b := by
  have := on_add hv 1
  rwa [Int.one_mul] at this
theorem fT_least (hs : 0 < s) (hx : s ∣ x - b) (hb : b ≤ x) (hd : d ≤ x) : fT b s d ≤ x := by
  by_cases h : fT b s d ≤ x
  · exact h
  · have h1 := on_gap hs hx (fT_on (d := d)) (by omega)
    have h2 := fT_lt (b := b) (d := d) hs (by omega)
    omega
theorem fT_gap (hs : 0 < s) (h : v + s ≤ w) (hb : b < fT b s w) : fT b s v + s ≤ fT b s w := by
  have h1 := on_gap hs (v := b) (b := b) ⟨0, by rw [Int.mul_zero]; omega⟩ (fT_on (d := w)) hb
  have h2 := fT_ge (b := b) (d := w) hs
  have h3 : s ∣ fT b s w - s - b := by
    have := on_add (fT_on (b := b) (s := s) (d := w)) (-1)
    rwa [show fT b s w + -1 * s - b = fT b s w - s - b by omega] at this
  have := fT_least (d := v) hs h3 (by omega) (by omega)
  omega
end
/-- the day of the i-th time, from 0 on -/
def nthI (r : Rule) (b s i : Int) : Int := match r.kd with
  | .after => fT b s r.st + i * s * ((r.ev + s - 1) / s)
  | .pile => max (fT b s (r.st + i * r.ev)) (fT b s r.st + i * s)
  | .fixed => if r.ev ≤ s then fT b s r.st + i * s else max (fT b s r.st) (fT b s (r.st + ((fT b s r.st - r.st) / r.ev + i) * r.ev))
section
variable {r : Rule} {b s i : Int}
theorem nth_after (h : r.kd = .after) : nthI r b s i = fT b s r.st + i * s * ((r.ev + s - 1) / s) := by
  unfold nthI
  rw [h]
theorem nth_pile (h : r.kd = .pile) : nthI r b s i = max (fT b s (r.st + i * r.ev)) (fT b s r.st + i * s) := by
  unfold nthI
  rw [h]
theorem nth_fixed (h : r.kd = .fixed) : nthI r b s i = if r.ev ≤ s then fT b s r.st + i * s else max (fT b s r.st) (fT b s (r.st + ((fT b s r.st - r.st) / r.ev + i) * r.ev)) := by
  unfold nthI
  rw [h]
theorem ceil_b (he : 1 ≤ r.ev) (hs : 0 < s) : 1 ≤ (r.ev + s - 1) / s ∧ r.ev ≤ s * ((r.ev + s - 1) / s) ∧ s * ((r.ev + s - 1) / s) < r.ev + s := by
  have h1 := Int.emod_add_mul_ediv (r.ev + s - 1) s
  have h2 := Int.emod_lt_of_pos (r.ev + s - 1) hs
  have h3 := Int.emod_nonneg (r.ev + s - 1) (show s ≠ 0 by omega)
  refine ⟨?_, by omega, by omega⟩
  have h4 := Int.ediv_nonneg (a := r.ev - 1) (b := s) (by omega) (by omega)
  have h5 : (r.ev - 1 + s * 1) / s = (r.ev - 1) / s + 1 := Int.add_mul_ediv_left _ _ (by omega)
  rw [show r.ev - 1 + s * 1 = r.ev + s - 1 by omega] at h5
  omega
end
section
variable {r : Rule} {b s i : Int}
theorem succ_mul' (i s : Int) : (i + 1) * s = i * s + s := by rw [Int.add_mul, Int.one_mul]
theorem nth_on (hs : 0 < s) : s ∣ nthI r b s i - b := by
  have h0 := fT_on (b := b) (s := s) (d := r.st)
  rcases kd_or r with h | h | h
  · rw [nth_after h]
    have := on_add h0 (i * ((r.ev + s - 1) / s))
    rwa [show i * ((r.ev + s - 1) / s) * s = i * s * ((r.ev + s - 1) / s) by rw [Int.mul_assoc, Int.mul_assoc, Int.mul_comm s]] at this
  · rw [nth_fixed h]
    split
    · exact on_add h0 i
    · by_cases c : fT b s r.st ≤ fT b s (r.st + ((fT b s r.st - r.st) / r.ev + i) * r.ev)
      · rw [Int.max_eq_right c]
        exact fT_on
      · rw [Int.max_eq_left (by omega)]
        exact h0
  · rw [nth_pile h]
    by_cases c : fT b s (r.st + i * r.ev) ≤ fT b s r.st + i * s
    · rw [Int.max_eq_right c]
      exact on_add h0 i
    · rw [Int.max_eq_left (by omega)]
      exact fT_on
theorem nth_first (he : 1 ≤ r.ev) (hs : 0 < s) : nthI r b s 0 = fT b s r.st := by
  have h0 := fT_ge (b := b) (d := r.st) hs
  rcases kd_or r with h | h | h
  · rw [nth_after h, Int.zero_mul, Int.zero_mul, Int.add_zero]
  · rw [nth_fixed h]
    split
    · rw [Int.zero_mul, Int.add_zero]
    · rw [Int.add_zero]
      have h1 := Int.ediv_mul_le (fT b s r.st - r.st) (show r.ev ≠ 0 by omega)
      have := fT_least (b := b) (d := r.st + (fT b s r.st - r.st) / r.ev * r.ev) hs (fT_on (d := r.st)) h0.2 (by omega)
      omega
  · rw [nth_pile h, Int.zero_mul, Int.zero_mul, Int.add_zero, Int.add_zero]
    omega
/-- where "fixed" stands -/
theorem fix_stretch (he : 1 ≤ r.ev) (hs : 0 < s) (hk : r.kd = .fixed) (hse : s < r.ev) (hi : 0 ≤ i) :
    r.st + ((fT b s r.st - r.st) / r.ev + i) * r.ev ≤ nthI r b s i ∧ nthI r b s i < r.st + ((fT b s r.st - r.st) / r.ev + i + 1) * r.ev := by
  rw [nth_fixed hk, if_neg (by omega)]
  have h0 := fT_ge (b := b) (d := r.st) hs
  have h1 := Int.emod_add_mul_ediv (fT b s r.st - r.st) r.ev
  have h2 := Int.emod_lt_of_pos (fT b s r.st - r.st) (show 0 < r.ev by omega)
  have h3 : 0 ≤ i * r.ev := Int.mul_nonneg hi (by omega)
  have e1 : ((fT b s r.st - r.st) / r.ev + i) * r.ev = r.ev * ((fT b s r.st - r.st) / r.ev) + i * r.ev := by rw [Int.add_mul, Int.mul_comm r.ev]
  have e2 := succ_mul' ((fT b s r.st - r.st) / r.ev + i) r.ev
  generalize hv : r.st + ((fT b s r.st - r.st) / r.ev + i) * r.ev = v at *
  have h4 := fT_ge (b := b) (d := v) hs
  refine ⟨by omega, ?_⟩
  by_cases c : b < fT b s v
  · have h5 := fT_lt (b := b) (d := v) hs c
    omega
  · omega
theorem nth_mono (he : 1 ≤ r.ev) (hs : 0 < s) (hi : 0 ≤ i) : nthI r b s i + s ≤ nthI r b s (i + 1) := by
  have h0 := fT_ge (b := b) (d := r.st) hs
  have ei := succ_mul' i s
  have i0 : 0 ≤ i * s := Int.mul_nonneg hi (by omega)
  rcases kd_or r with h | h | h
  · obtain ⟨c1, c2, c3⟩ := ceil_b (r := r) he hs
    rw [nth_after h, nth_after h, ei, Int.add_mul]
    have := Int.mul_le_mul_of_nonneg_left c1 (show 0 ≤ s by omega)
    omega
  · by_cases c : r.ev ≤ s
    · rw [nth_fixed h, nth_fixed h, if_pos c, if_pos c, ei]
      omega
    · obtain ⟨a1, a2⟩ := fix_stretch (b := b) he hs h (by omega) hi
      obtain ⟨b1, b2⟩ := fix_stretch (b := b) (i := i + 1) he hs h (by omega) (by omega)
      rw [← Int.add_assoc] at b1
      exact on_gap hs (nth_on hs) (nth_on hs) (by omega)
  · rw [nth_pile h, nth_pile h, ei, succ_mul' i r.ev]
    by_cases c : fT b s (r.st + i * r.ev) ≤ fT b s r.st + i * s
    · omega
    · have hlt : s < r.ev := by
        by_cases c2 : s < r.ev
        · exact c2
        · exfalso
          have h1 := Int.mul_le_mul_of_nonneg_left (show r.ev ≤ s by omega) hi
          have := fT_least (b := b) (d := r.st + i * r.ev) hs (on_add (fT_on (b := b) (s := s) (d := r.st)) i) (by omega) (by omega)
          omega
      have h2 := fT_ge (b := b) (d := r.st + i * r.ev) hs
      have h4 : b < fT b s (r.st + (i * r.ev + r.ev)) := by
        have h5 := fT_ge (b := b) (d := r.st + (i * r.ev + r.ev)) hs
        have h6 := fT_lt (b := b) (d := r.st + i * r.ev) hs (by omega)
        omega
      have := fT_gap (b := b) (v := r.st + i * r.ev) (w := r.st + (i * r.ev + r.ev)) hs (by omega) h4
      omega
/-- the due day u belongs to the i-th time; nobody is there any more ahead of y -/
def Lnk (r : Rule) (b s i u y : Int) : Prop := max y (fT b s u) = nthI r b s i ∧ (r.kd = .pile → u = r.st + i * r.ev)
theorem lnk0 (he : 1 ≤ r.ev) (hs : 0 < s) : Lnk r b s 0 r.st b := by
  have h0 := fT_ge (b := b) (d := r.st) hs
  exact ⟨by rw [nth_first he hs]; omega, fun _ => by rw [Int.zero_mul, Int.add_zero]⟩
theorem lnk_no {u y : Int} (hs : 0 < s) (hy : s ∣ y - b) (hb : b ≤ y) (h : ¬ u ≤ y) (L : Lnk r b s i u y) : Lnk r b s i u (y + s) := by
  refine ⟨?_, L.2⟩
  rw [← L.1]
  have h1 := fT_ge (b := b) (d := u) hs
  have := on_gap hs hy (fT_on (d := u)) (by omega)
  omega
theorem lnk_yes {u y : Int} (he : 1 ≤ r.ev) (hs : 0 < s) (hi : 0 ≤ i) (hy : s ∣ y - b) (hb : b ≤ y) (h : u ≤ y) (L : Lnk r b s i u y) : nthI r b s i = y ∧ Lnk r b s (i + 1) (nxt r u y) (y + s) := by
  have h1 := fT_least hs hy hb h
  have e : nthI r b s i = y := by
    rw [← L.1]
    omega
  refine ⟨e, ?_⟩
  have hm := nth_mono (b := b) he hs hi
  have ei := succ_mul' i s
  have i0 : 0 ≤ i * s := Int.mul_nonneg hi (by omega)
  rcases kd_or r with hk | hk | hk
  · refine ⟨?_, fun z => by rw [hk] at z; cases z⟩
    have en : nxt r u y = y + r.ev := by
      unfold nxt
      rw [hk]
    rw [en]
    obtain ⟨c1, c2, c3⟩ := ceil_b (r := r) he hs
    have e2 : nthI r b s (i + 1) = y + s * ((r.ev + s - 1) / s) := by
      rw [← e, nth_after hk, nth_after hk, ei, Int.add_mul, Int.add_assoc]
    rw [e2]
    have h2 := Int.mul_le_mul_of_nonneg_left c1 (show 0 ≤ s by omega)
    have o := on_add hy ((r.ev + s - 1) / s)
    rw [Int.mul_comm _ s] at o
    have h3 := fT_least (d := y + r.ev) hs o (by omega) (by omega)
    have h4 := fT_ge (b := b) (d := y + r.ev) hs
    have o2 : s ∣ y + s * ((r.ev + s - 1) / s) - s - b := by
      have := on_add o (-1)
      rwa [show y + s * ((r.ev + s - 1) / s) + -1 * s - b = y + s * ((r.ev + s - 1) / s) - s - b by omega] at this
    have h5 := on_gap hs o2 (fT_on (d := y + r.ev)) (by omega)
    omega
  · refine ⟨?_, fun z => by rw [hk] at z; cases z⟩
    have hgt := nxt_gt (u := u) (d := y) he (by rw [hk]; decide)
    have hhi := nxt_hi (u := u) (d := y) he h
    have g1 := fT_ge (b := b) (d := nxt r u y) hs
    have g2 := on_gap hs hy (fT_on (d := nxt r u y)) (by omega)
    by_cases c : r.ev ≤ s
    · have e2 : nthI r b s (i + 1) = y + s := by
        rw [← e, nth_fixed hk, nth_fixed hk, if_pos c, if_pos c, ei]
        omega
      have := fT_least (d := nxt r u y) hs (on_step hy) (by omega) (by omega)
      omega
    · obtain ⟨a1, a2⟩ := fix_stretch (b := b) he hs hk (by omega) hi
      rw [e] at a1 a2
      have q : (y - r.st) / r.ev = (fT b s r.st - r.st) / r.ev + i := div_uniq (by omega) (by omega) (by omega)
      have hn : nxt r u y = r.st + ((fT b s r.st - r.st) / r.ev + (i + 1)) * r.ev := by
        rw [grid_eq hk, q, Int.mul_comm, Int.add_assoc]
      rw [nth_fixed hk, if_neg c] at e
      rw [nth_fixed hk, if_neg c, ← hn]
      omega
  · have en : nxt r u y = u + r.ev := by
      unfold nxt
      rw [hk]
    have hu := L.2 hk
    have e3 := succ_mul' i r.ev
    refine ⟨?_, fun _ => by rw [en, hu, e3]; omega⟩
    rw [en, hu]
    rw [nth_pile hk] at e
    rw [nth_pile hk, nth_pile hk] at hm
    rw [nth_pile hk]
    rw [show r.st + i * r.ev + r.ev = r.st + (i + 1) * r.ev by omega]
    omega
theorem stp_cons (s e : Int) (n : Nat) : stp s e (n + 1) = s :: stp (s + e) e n := by
  unfold stp
  rw [List.range_succ_eq_map, List.map_cons, List.map_map]
  congr 1
  · show s + e * 0 = s
    omega
  · apply List.map_congr_left
    intro k _
    show s + e * ((k + 1 : Nat) : Int) = s + e + e * (k : Int)
    rw [Int.natCast_add, Int.mul_add]
    simp only [Int.natCast_one, Int.mul_one]
    omega
def nths (r : Rule) (b s i : Int) (m : Nat) : List Int := (List.range m).map fun (k : Nat) => nthI r b s (i + (k : Int))
theorem nths_cons (r : Rule) (b s i : Int) (m : Nat) : nths r b s i (m + 1) = nthI r b s i :: nths r b s (i + 1) m := by
  unfold nths
  rw [List.range_succ_eq_map, List.map_cons, List.map_map]
  congr 1
  · show nthI r b s (i + 0) = nthI r b s i
    rw [Int.add_zero]
  · apply List.map_congr_left
    intro k _
    show nthI r b s (i + ((k + 1 : Nat) : Int)) = nthI r b s (i + 1 + (k : Int))
    congr 1
    omega
theorem reg (he : 1 ≤ r.ev) (hs : 0 < s) : ∀ (c : Nat) (y u i : Int), 0 ≤ i → s ∣ y - b → b ≤ y → Lnk r b s i u y →
    ∃ m : Nat, (pl r (stp y s c) u).1.map Prod.fst = nths r b s i m ∧ y + s * (c : Int) ≤ nthI r b s (i + (m : Int))
  | 0, y, u, i, hi, hy, hb, L => by
    refine ⟨0, rfl, ?_⟩
    show y + s * 0 ≤ nthI r b s (i + 0)
    rw [Int.mul_zero, Int.add_zero, Int.add_zero, ← L.1]
    omega
  | c + 1, y, u, i, hi, hy, hb, L => by
    rw [stp_cons, pl_cons]
    have e1 : y + s * ((c + 1 : Nat) : Int) = y + s + s * (c : Int) := by
      rw [Int.natCast_add, Int.mul_add]
      simp only [Int.natCast_one, Int.mul_one]
      omega
    rw [e1]
    by_cases h : u ≤ y
    · rw [if_pos h]
      obtain ⟨e, L2⟩ := lnk_yes he hs hi hy hb h L
      obtain ⟨m, h1, h2⟩ := reg he hs c (y + s) (nxt r u y) (i + 1) (by omega) (on_step hy) (by omega) L2
      refine ⟨m + 1, ?_, ?_⟩
      · rw [nths_cons, List.map_cons, h1, e]
      · rwa [show i + ((m + 1 : Nat) : Int) = i + 1 + (m : Int) by omega]
    · rw [if_neg h]
      exact reg he hs c (y + s) u i hi (on_step hy) (by omega) (lnk_no hs hy hb h L)
/-- the days done of a regular presence -/
theorem reg_done (he : 1 ≤ r.ev) (hs : 0 < s) (c : Nat) : ∃ m : Nat, done r (stp b s c) = nths r b s 0 m ∧ b + s * (c : Int) ≤ nthI r b s (m : Int) := by
  obtain ⟨m, h1, h2⟩ := reg (b := b) he hs c b r.st 0 (Int.le_refl 0) ⟨0, by omega⟩ (Int.le_refl _) (lnk0 he hs)
  refine ⟨m, h1, ?_⟩
  rwa [Int.zero_add] at h2
theorem nth_lt (he : 1 ≤ r.ev) (hs : 0 < s) (hi : 0 ≤ i) : ∀ k : Nat, nthI r b s i + s * (k : Int) ≤ nthI r b s (i + (k : Int))
  | 0 => by
    show nthI r b s i + s * 0 ≤ nthI r b s (i + 0)
    rw [Int.mul_zero, Int.add_zero, Int.add_zero]
    exact Int.le_refl _
  | k + 1 => by
    have ih := nth_lt he hs hi k
    have h1 := nth_mono (b := b) (i := i + (k : Int)) he hs (by omega)
    rw [show i + (k : Int) + 1 = i + ((k + 1 : Nat) : Int) by omega] at h1
    have e1 : s * ((k + 1 : Nat) : Int) = s * (k : Int) + s := by
      rw [Int.natCast_add, Int.mul_add]
      simp only [Int.natCast_one, Int.mul_one]
    omega
theorem nth_mono_le (he : 1 ≤ r.ev) (hs : 0 < s) {i j : Int} (hi : 0 ≤ i) (h : i ≤ j) : nthI r b s i + (j - i) ≤ nthI r b s j := by
  have := nth_lt (b := b) (r := r) he hs hi (j - i).toNat
  rw [show i + (((j - i).toNat : Nat) : Int) = j by omega, show (((j - i).toNat : Nat) : Int) = j - i by omega] at this
  have h2 : 1 * (j - i) ≤ s * (j - i) := Int.mul_le_mul_of_nonneg_right (by omega) (by omega)
  omega
theorem nth_ge (he : 1 ≤ r.ev) (hs : 0 < s) (hb : 0 ≤ b) (hi : 0 ≤ i) : i ≤ nthI r b s i := by
  have h1 := nth_mono_le (b := b) (r := r) he hs (Int.le_refl 0) hi
  rw [nth_first he hs] at h1
  have := fT_ge (b := b) (d := r.st) hs
  omega
end
end Mt
namespace Mt
open PySem Dt
def wCheckNum : RCD := wF (fun a : PyData × Int × Int => inRg a.1 a.2.1 a.2.2 = true) (fun a => [a.1, .int a.2.1, .int a.2.2]) (fun _ => .none)
def wFirst : RCD := wF (fun a : Int × Int × Int => 0 < a.2.1) (fun a => [.int a.1, .int a.2.1, .int a.2.2]) (fun a => .int (fT a.1 a.2.1 a.2.2))
def RegOk (a : Rule × Int × Int) : Prop := a.1.Ok ∧ (0 ≤ a.2.1 ∧ a.2.1 ≤ 1000) ∧ 1 ≤ a.2.2 ∧ a.2.2 ≤ 1000
def wNth : RCD := wF (fun a : (Rule × Int × Int) × Int => RegOk a.1) (fun a => [ruleD a.1.1, .int a.1.2.1, .int a.1.2.2, .int a.2]) (fun a => .int (nthI a.1.1 a.1.2.1 a.1.2.2 a.2))
def wNthDone : RCD := wF (fun a : (Rule × Int × Int) × Int => RegOk a.1 ∧ 1 ≤ a.2 ∧ a.2 ≤ 1000000000000) (fun a => [ruleD a.1.1, .int a.1.2.1, .int a.1.2.2, .int a.2]) (fun a => .int (nthI a.1.1 a.1.2.1 a.1.2.2 (a.2 - 1)))
/-- n times up to a day -/
def Cnt (r : Rule) (b s day n : Int) : Prop := 0 ≤ n ∧ (∀ i : Int, 0 ≤ i → i < n → nthI r b s i ≤ day) ∧ day < nthI r b s n
def wDoneBy : RCD := fun ds P => ∃ a : (Rule × Int × Int) × Int, (RegOk a.1 ∧ 0 ≤ a.2 ∧ a.2 ≤ 1000000000000000) ∧ ds = [ruleD a.1.1, .int a.1.2.1, .int a.1.2.2, .int a.2] ∧ ∀ n : Int, Cnt a.1.1 a.1.2.1 a.1.2.2 a.2 n → P (.int n)
theorem wDoneBy_len : ∀ ds P, wDoneBy ds P → ds.length = 4 := fun ds P q => by
  obtain ⟨a, _, e, _⟩ := q
  rw [e]
  rfl
section
variable {r : Rule} {b s day n n' : Int}
theorem Cnt.uniq (h : Cnt r b s day n) (h' : Cnt r b s day n') : n = n' := by
  have h1 : ¬ n < n' := fun z => by
    have := h'.2.1 n h.1 z
    have := h.2.2
    omega
  have h2 : ¬ n' < n := fun z => by
    have := h.2.1 n' h'.1 z
    have := h'.2.2
    omega
  omega
theorem cnt_of (he : 1 ≤ r.ev) (hs : 0 < s) (hn : 0 ≤ n) (h1 : n = 0 ∨ nthI r b s (n - 1) ≤ day) (h2 : day < nthI r b s n) : Cnt r b s day n := by
  refine ⟨hn, fun i h0 hi => ?_, h2⟩
  rcases h1 with h1 | h1
  · omega
  · have := nth_mono_le (b := b) he hs h0 (show i ≤ n - 1 by omega)
    omega
theorem Cnt.le_iff (he : 1 ≤ r.ev) (hs : 0 < s) (h : Cnt r b s day n) {i : Int} (hi : 0 ≤ i) : nthI r b s i ≤ day ↔ i < n := by
  constructor
  · intro h1
    by_cases c : i < n
    · exact c
    · have := nth_mono_le (b := b) he hs h.1 (show n ≤ i by omega)
      have := h.2.2
      omega
  · exact h.2.1 i hi
theorem range_filter (n : Nat) : ∀ m : Nat, n ≤ m → (List.range m).filter (fun k => decide (k < n)) = List.range n
  | 0, h => by
    have e : n = 0 := by omega
    subst e
    rfl
  | m + 1, h => by
    rw [List.range_succ, List.filter_append]
    by_cases c : n = m + 1
    · subst c
      rw [List.filter_eq_self.mpr, List.filter_eq_self.mpr, ← List.range_succ]
      · intro x hx
        rw [List.mem_singleton.mp hx]
        exact decide_eq_true (by omega)
      · intro x hx
        have := List.mem_range.mp hx
        exact decide_eq_true (by omega)
    · rw [range_filter n m (by omega), List.filter_eq_nil_iff.mpr, List.append_nil]
      intro x hx
      rw [List.mem_singleton.mp hx, decide_eq_true_eq]
      omega
theorem cnt_filter (he : 1 ≤ r.ev) (hs : 0 < s) (h : Cnt r b s day n) {m : Nat} (hm : day < nthI r b s (m : Int)) : (((nths r b s 0 m).filter (fun x => decide (x ≤ day))).length : Int) = n := by
  have h0 := h.1
  have hnm : n ≤ (m : Int) := by
    by_cases c : n ≤ (m : Int)
    · exact c
    · have := h.2.1 (m : Int) (by omega) (by omega)
      omega
  unfold nths
  rw [List.filter_map, List.length_map]
  have e : ((fun x => decide (x ≤ day)) ∘ fun (k : Nat) => nthI r b s (0 + (k : Int))) = fun k : Nat => decide (k < n.toNat) := by
    funext k
    show decide (nthI r b s (0 + (k : Int)) ≤ day) = decide (k < n.toNat)
    rw [Int.zero_add]
    refine decide_eq_decide.mpr ?_
    rw [h.le_iff he hs (by omega)]
    omega
  rw [e, range_filter n.toNat m (by omega), List.length_range]
  omega
theorem nths_len (r : Rule) (b s i : Int) (m : Nat) : (nths r b s i m).length = m := by
  unfold nths
  rw [List.length_map, List.length_range]
theorem nths_get {m k : Nat} (h : k < (nths r b s 0 m).length) : (nths r b s 0 m)[k] = nthI r b s (k : Int) := by
  have h3 : k < m := by rwa [nths_len] at h
  have h4 : (nths r b s 0 m)[k]? = some (nthI r b s (0 + (k : Int))) := by
    unfold nths
    rw [List.getElem?_map, List.getElem?_range h3]
    rfl
  rw [List.getElem?_eq_getElem h, Int.zero_add] at h4
  exact Option.some.inj h4
theorem nths_last {m : Nat} (h : 0 < m) : (nths r b s 0 m).getLast? = some (nthI r b s ((m : Int) - 1)) := by
  have h2 : m - 1 < (nths r b s 0 m).length := by
    rw [nths_len]
    omega
  rw [List.getLast?_eq_getElem?, show (nths r b s 0 m).length - 1 = m - 1 by rw [nths_len], List.getElem?_eq_getElem h2, nths_get h2]
  congr 2
  omega
end
theorem ev_ceil {e s : Int} (h1 : 1 ≤ e) (h2 : e ≤ 100) (hs : 0 < s) (hs2 : s ≤ 1000) : 0 ≤ (e + s - 1) / s ∧ (e + s - 1) / s ≤ 1100 := by
  have := Int.ediv_nonneg (a := e + s - 1) (b := s) (by omega) (by omega)
  have := Int.ediv_le_self s (show 0 ≤ e + s - 1 by omega)
  omega
def wPlayedY : RCD := wF (fun a : Rule × List Int × PyData => 1 ≤ a.1.ev ∧ a.2.1.length ≤ 1000000 ∧ itemsOf a.2.2 = some (intsD a.2.1)) (fun a => [ruleD a.1, a.2.2]) (fun a => .tuple [.list (rowsD (rows a.1 a.2.1)), .int (due a.1 a.2.1)])
def wLDoneY : List PyData → (List PyData → Prop) → Prop := wN (fun a : Rule × List Int × PyData => 1 ≤ a.1.ev ∧ a.2.1.length ≤ 1000000 ∧ itemsOf a.2.2 = some (intsD a.2.1)) (fun a => [ruleD a.1, a.2.2]) (fun a => intsD (done a.1 a.2.1))
theorem stp_last (s e : Int) (n : Nat) : (stp s e (n + 1)).getLast? = some (s + e * (n : Int)) := by
  rw [stp_succ, List.getLast?_concat]
theorem stp_atlast (s e : Int) {c : Int} (h : 1 ≤ c) : atD (intsD (stp s e c.toNat)) (-1) = some (.int (s + e * (c - 1))) := by
  rw [atD_last]
  obtain ⟨n, hn⟩ : ∃ n : Nat, c = (n : Int) + 1 := ⟨(c - 1).toNat, by omega⟩
  rw [show c.toNat = n + 1 by omega, stp_last, show c - 1 = (n : Int) by omega]
  rfl
end Mt
namespace DtL
open PySem PySem.W PyProof.Rows
/-- v is a tuple that holds these numbers -/
def IsIT (h : Heap) (v : Value) (ns : List Int) : Prop := ∃ (a : Addr) (dd : Option Addr) (items : Array Value) (n : Nat) (sl : Array (Option Value)), v = .ref a ∧ h.get? a = some { cls := .type "tuple", dict := dd, data := .seq items n, slots := sl } ∧ IntsAre items.toList ns
theorem IsIT.keeps {h h' : Heap} {v : Value} {ns : List Int} (x : IsIT h v ns) (k : ∀ b o, v = .ref b → h.get? b = some o → h'.get? b = some o) : IsIT h' v ns := by
  obtain ⟨a, dd, items, n, sl, e, g, i⟩ := x
  exact ⟨a, dd, items, n, sl, e, k _ _ e g, i⟩
theorem IsIT.type {M : Model} {h : Heap} {v : Value} {ns : List Int} (x : IsIT h v ns) : Looks M h (typeOf v) (.type "tuple") := by
  obtain ⟨a, dd, items, n, sl, rfl, g, i⟩ := x
  exact (Looks.ld g).andThen .now
section
variable {prog : Program} {w : World} {A : Around} {E : Value → Shared → Prop} {s : Shared}
theorem call_lt {a b : Addr} {dd dd2 : Option Addr} {items items2 : Array Value} {n n2 : Nat} {sl sl2 : Array (Option Value)} {ns ms : List Int} {Q : Value → Shared → Prop} (ga : s.heap.get? a = some { cls := .type "tuple", dict := dd, data := .seq items n, slots := sl })
    (gb : s.heap.get? b = some { cls := .type "tuple", dict := dd2, data := .seq items2 n2, slots := sl2 }) (ia : IntsAre items.toList ns) (ib : IntsAre items2.toList ms)
    (iu : ∀ M : Model, Looks M s.heap (isInstance (.ref b) (.type "tuple")) true) (h : Q (.bool (HT.lexLt ns ms)) s) : wpAny (model prog w) A (call (.builtin "tuple.__lt__") [.ref a, .ref b]) Q E s := by
  refine call_meets F.slot_tuple_lt ⟨_, ga, rfl⟩ F.entry_tuple_lt (F.args_tuple_lt_2 _ _) (NtL.nt_lt_ints a b (.type "tuple") (.type "tuple") items items2 n n2 dd dd2 sl sl2 ns ms ia ib) ⟨ga, gb, iu, h⟩
theorem lt_it {v u : Value} {ns ms : List Int} {Q : Bool → Shared → Prop} (hu : A.units < cLine) (hv : IsIT s.heap v ns) (hw : IsIT s.heap u ms) (h : Q (HT.lexLt ns ms) s) : wpAny (model prog w) A (keyLt' oneType' v u) Q E s := by
  have sp : Looks (model prog w) s.heap (specialOf v "__lt__") (some (.builtin "tuple.__lt__")) := hv.type.andThen (Looks.of_pure F.slot_tuple_lt.lookup)
  have iu : ∀ M : Model, Looks M s.heap (isInstance u (.type "tuple")) true := fun M => (hw.type (M := M)).andThen (Looks.of_pure isSubtype_tuple_tuple)
  obtain ⟨a, dd, items, n, sl, rfl, ga, ia⟩ := hv
  obtain ⟨b, dd2, items2, n2, sl2, rfl, gb, ib⟩ := hw
  rw [keyLt'_oneType, oneLt'_eq]
  simp only [if_true]
  refine wpAny_bind (wpAny_cRoomFor hu ?_)
  refine wpAny_bind (NtL.csib (E := E) sp (PySem.F.slot_tuple_lt.bind _) (call_lt ga gb ia ib iu ?_))
  exact wpAny_truthy_bool h
theorem mapM_some {M : Model} {α β : Type} {f : α → Sem β} : ∀ (l : List α) {Q : List β → Shared → Prop}, (∀ v ∈ l, ∃ r, ∀ (Q' : β → Shared → Prop), Q' r s → wpAny M A (f v) Q' E s) → (∀ rs, Q rs s) → wpAny M A (l.mapM f) Q E s
  | [], _, _, h => by rw [List.mapM_nil]; exact wpAny_pure (h [])
  | x :: l, Q, hf, h => by
    rw [List.mapM_cons]
    obtain ⟨r, hr⟩ := hf x (.head _)
    exact wpAny_bind (hr _ (wpAny_bind (mapM_some l (Q := fun bs s' => wpAny M A (pure (r :: bs)) Q E s') (fun v hv => hf v (.tail _ hv)) fun rs => wpAny_pure (h _))))
theorem first_it {M : Model} {v : Value} {ns : List Int} {Q : Option Value → Shared → Prop} (hv : IsIT s.heap v ns) (h : ∀ r : Option Value, (ns = [] → r = none) → Q r s) : wpAny M A (firstOfTuple' v) Q E s := by
  rw [kas_first_eq]
  refine wpAny_bind (hv.type.here ?_)
  rw [if_neg (by decide)]
  obtain ⟨a, dd, items, n, sl, rfl, ga, ia⟩ := hv
  refine wpAny_bind (listItems_at ga rfl (wpAny_pure (h _ fun e => ?_)))
  subst e
  cases hi : items.toList with
  | nil =>
    have : items = #[] := by
      apply Array.toList_inj.mp
      rw [hi]
    rw [this]
    rfl
  | cons x xs =>
    rw [hi] at ia
    cases ia
theorem it_kind {vs : List Value} {v₁ : Value} {rest : List Value} {Q : SortKind → Shared → Prop} (he : vs = v₁ :: rest) (h1 : IsIT s.heap v₁ []) (hT : ∀ v ∈ vs, ∃ ns, IsIT s.heap v ns) (h : Q oneType' s) :
    wpAny (model prog w) A (keyKind' vs.toArray) Q E s := by
  subst he
  rw [keyKind'_eq, List.mapM_toArray, map_eq_pure_bind, List.mapM_cons]
  refine wpAny_bind (wpAny_bind (wpAny_bind (first_it h1 fun r hr => ?_)))
  have hr := hr rfl
  subst hr
  refine wpAny_bind (mapM_some rest (fun v hv => ?_) fun rs => ?_)
  · obtain ⟨ns, hi⟩ := hT v (.tail _ hv)
    obtain ⟨a, dd, items, n, sl, e, ga, ia⟩ := id hi
    refine ⟨items[0]?, fun Q' hq => ?_⟩
    rw [kas_first_eq]
    refine wpAny_bind (hi.type.here ?_)
    rw [if_neg (by decide)]
    subst e
    exact wpAny_bind (listItems_at ga rfl (wpAny_pure hq))
  · refine wpAny_pure (wpAny_pure ?_)
    rw [if_neg (by simp), if_neg (by simp)]
    rw [oneTypeOnly'_eq, List.mapM_toArray, map_eq_pure_bind]
    refine wpAny_bind (wpAny_bind (wpAny_bind (kas_mapM (r := Value.type "tuple") _ (fun v hv Q' hq => ?_) (wpAny_pure ?_))))
    · obtain ⟨ns, hi⟩ := hT v hv
      exact hi.type.here hq
    · have hall : ((List.map (fun _ => Value.type "tuple") (v₁ :: rest)).toArray.all fun x => x == Value.type "tuple") = true := by
        simp only [List.all_toArray, List.all_map, List.all_eq_true]
        intro _ _
        rfl
      have h0 : (List.map (fun _ => Value.type "tuple") (v₁ :: rest)).toArray[0]? = some (Value.type "tuple") := by simp
      rw [h0]
      simp only [hall, if_true]
      exact wpAny_pure (wpAny_pure h)
theorem it_sortable {a : Addr} {vs : List Value} {v₁ : Value} {rest : List Value} {k : Value → List Int} (he : vs = v₁ :: rest) (h1 : k v₁ = []) (hu : A.units < cLine) (hv : ∀ v ∈ vs, IsIT s.heap v (k v)) (ha : ∀ v ∈ vs, v ≠ .ref a) :
    SrtO.SortableO prog w A s a vs fun v u => HT.lexLt (k v) (k u) := by
  intro h' keep
  have hv' : ∀ v ∈ vs, IsIT h' v (k v) := fun v hm => (hv v hm).keeps fun b o e g => keep b o (fun z => ha v hm (by rw [e, z])) g
  refine ⟨oneType', fun Q E hq => ?_, ?_⟩
  · exact it_kind (s := { s with heap := h' }) he (by have := hv' v₁ (by rw [he]; exact .head _); rw [h1] at this; exact this) (fun v hm => ⟨_, hv' v hm⟩) hq
  · intro p q hp hq
    exact lt_it (s := { s with heap := h' }) (Q := fun r s' => s' = { s with heap := h' } ∧ r = HT.lexLt (k p.1) (k q.1)) (E := fun _ _ => False) hu (hv' p.1 hp) (hv' q.1 hq) ⟨rfl, rfl⟩
end
end DtL
namespace DtL
open PySem PySem.W PyProof.Rows
theorem ints_uniq : ∀ {vs : List Value} {ns ms : List Int}, IntsAre vs ns → IntsAre vs ms → ns = ms
  | _, _, _, .nil, .nil => rfl
  | _, _, _, .cons a t h, h2 => by
    cases h2 with
    | cons b u h3 => rw [ints_uniq h h3]
theorem IsIT.uniq {h : Heap} {v : Value} {ns ms : List Int} (x : IsIT h v ns) (y : IsIT h v ms) : ns = ms := by
  obtain ⟨a, dd, items, n, sl, rfl, g, i⟩ := x
  obtain ⟨b, dd2, items2, n2, sl2, e, g2, i2⟩ := y
  cases e
  rw [g] at g2
  cases g2
  exact ints_uniq i i2
open Classical in
noncomputable def kIT (h : Heap) (v : Value) : List Int := if x : ∃ ns, IsIT h v ns then choose x else []
theorem kIT_eq {h : Heap} {v : Value} {ns : List Int} (x : IsIT h v ns) : kIT h v = ns := by
  unfold kIT
  have hx : ∃ ns, IsIT h v ns := ⟨ns, x⟩
  rw [dif_pos hx]
  exact (Classical.choose_spec hx).uniq x
end DtL
namespace Dt
open PySem PySem.Spec PyProof.Rows L2
variable [TabG]
section TC
variable [TabC]
def rSortZ (K : PySem.W.Frag) : List V → Hp → VK → Prop := fun vs H Q => ∃ (a : Addr) (z0 : Addr × List Int) (zr : List (Addr × List Int)), vs = [V.ref a] ∧ H a = some (.lst ((z0 :: zr).map fun z => V.ref z.1)) ∧ z0.2 = [] ∧ (∀ z ∈ z0 :: zr, SqT K H z.1 (z.2.map V.int)) ∧
  ∀ (zs' : List (Addr × List Int)) (p : Addr), zs'.Perm (z0 :: zr) → zs'.Pairwise (fun x y => HT.lexLt y.2 x.2 = false) → H p = none → Q (.ref p) (upd H p (.lst (zs'.map fun z => V.ref z.1)))
theorem vals_refs : ∀ {zs : List (Addr × List Int)} {us : List Value}, Vals (zs.map fun z => V.ref z.1) us → us = zs.map fun z => Value.ref z.1
  | [], us, r => by
    cases r
    rfl
  | z :: zs, us, r => by
    rw [List.map_cons] at r
    cases r with
    | cons h q =>
      cases h
      rw [List.map_cons, ← vals_refs q]
theorem refs_vals : ∀ zs : List (Addr × List Int), Vals (zs.map fun z => V.ref z.1) (zs.map fun z => Value.ref z.1)
  | [] => .nil
  | _ :: zs => .cons rfl (refs_vals zs)
section
variable {X : Cx}
theorem cr_sortZ (hu : X.A.units + 64 < cLine) : CallR X (.builtin "sorted") (rSortZ X.K) := by
  intro pins s σ H vs us Q I r h
  obtain ⟨a, z0, zr, rfl, hs, h0, hz, q⟩ := h
  obtain ⟨its, rv, hl, hsz⟩ := I.list (SqL.of hs)
  rw [Vals.ref1 r]
  have ei := vals_refs rv
  have hit : ∀ z ∈ z0 :: zr, DtL.IsIT s.heap (.ref z.1) z.2 := fun z hm => by
    obtain ⟨ts, rt, ⟨o, ho, hc, n, hd⟩, _⟩ := I.tuple (hz z hm)
    have hi := rt.ints
    obtain ⟨cl, dd, da, sl⟩ := o
    simp only at hc hd
    subst hc hd
    exact ⟨z.1, dd, ts.toArray, n, sl, rfl, ho, by rw [List.toList_toArray]; exact hi⟩
  have hk : ∀ z ∈ z0 :: zr, DtL.kIT s.heap (.ref z.1) = z.2 := fun z hm => DtL.kIT_eq (hit z hm)
  have hv : ∀ v ∈ its, DtL.IsIT s.heap v (DtL.kIT s.heap v) := fun v hm => by
    rw [ei] at hm
    obtain ⟨z, hzm, rfl⟩ := List.mem_map.mp hm
    rw [hk z hzm]
    exact hit z hzm
  refine SrtO.sorted_ord (NtL.swo_lexL (DtL.kIT s.heap)) hl.isList (by rw [← rv.length]; exact hsz) (fun h2 h₁ a' ha' keep => ?_) fun out h1 h2 => ?_
  · refine DtL.it_sortable (s := { s with heap := h₁ }) (v₁ := .ref z0.1) (rest := zr.map fun (z : Addr × List Int) => Value.ref z.1) (by rw [ei]; rfl) ?_ (by show X.A.units + 1 + 1 < cLine; omega) (fun v hm => (hv v hm).keeps fun b o e g => (keep b o g).2) fun v hm e => ?_
    · rw [hk z0 List.mem_cons_self]
      exact h0
    · obtain ⟨b, dd, items, n, sl, e2, g, _⟩ := hv v hm
      rw [e] at e2
      cases e2
      exact (keep _ _ g).1 rfl
  · have hp : out.Perm its := h2.perm
    have er : out = out.map fun u => Value.ref (L2.adO u) := by
      have : ∀ u ∈ out, Value.ref (L2.adO u) = u := fun u hm => by
        have := hp.mem_iff.mp hm
        rw [ei] at this
        obtain ⟨z, _, rfl⟩ := List.mem_map.mp this
        rfl
      conv => lhs; rw [← List.map_id out]
      exact List.map_congr_left fun u hm => (this u hm).symm
    have ez : z0 :: zr = its.map fun u => (L2.adO u, DtL.kIT s.heap u) := by
      rw [ei, List.map_map]
      conv => lhs; rw [← List.map_id (z0 :: zr)]
      exact List.map_congr_left fun z hm => by
        show z = (z.1, DtL.kIT s.heap (.ref z.1))
        rw [hk z hm]
    obtain ⟨ep, he'⟩ := PyProof.Rows.sortedAll_at s.heap its out.toArray
    let zs' : List (Addr × List Int) := out.map fun u => (L2.adO u, DtL.kIT s.heap u)
    have eo : out = zs'.map fun z => Value.ref z.1 := by
      show out = (out.map _).map _
      rw [List.map_map]
      exact er
    have hperm : zs'.Perm (z0 :: zr) := by
      rw [ez]
      exact hp.map _
    have hlen : (zs'.map fun z => V.ref z.1).length ≤ sizeLine := by
      rw [List.length_map, hperm.length_eq]
      rw [List.length_map] at hsz
      exact hsz
    refine ⟨.ref _, upd H (s.heap.objs.size + 1) (.lst (zs'.map fun z => V.ref z.1)), I.laid (t' := s.toks) (fun _ _ => PyProof.Rows.sortedAll_old) (Nat.le_succ _) ⟨hlen, out, ep, ?_, he'⟩, rfl, q zs' _ hperm ?_ (I.hok.fresh (Nat.le_succ _))⟩
    · have := refs_vals zs'
      rw [← eo] at this
      exact this
    · exact List.pairwise_map.mpr h1
end
def tupI (ns : List Int) : PyData := .tuple (ns.map PyData.int)
def rSortZD : List PyData → (List PyData → Prop) → Prop := fun ds P => match ds with
  | [.list es] => ∃ nss : List (List Int), es = ([] :: nss).map tupI ∧ ∀ nss' : List (List Int), nss'.Perm ([] :: nss) → nss'.Pairwise (fun x y => HT.lexLt y x = false) → P (nss'.map tupI)
  | _ => False
section
variable {K : PySem.W.Frag}
theorem rpa_tups {G : Hp} : ∀ {ys : List V} {nss : List (List Int)}, RpA K G ys (nss.map tupI) → ∃ zs : List (Addr × List Int), ys = zs.map (fun z => V.ref z.1) ∧ zs.map (·.2) = nss ∧ ∀ z ∈ zs, SqT K G z.1 (z.2.map V.int)
  | _, [], .nil => ⟨[], rfl, rfl, fun z hz => by cases hz⟩
  | _, ns :: nss, .cons h r => by
    obtain ⟨zs, e1, e2, e3⟩ := rpa_tups (nss := nss) r
    cases h with
    | tup h1 h2 =>
      rename_i a xs
      have ex : xs = ns.map V.int := h2.ints
      subst ex
      refine ⟨(a, ns) :: zs, by rw [e1]; rfl, by rw [List.map_cons, e2], fun z hz => ?_⟩
      rcases List.mem_cons.mp hz with rfl | hz
      · exact h1
      · exact e3 z hz
theorem rpa_of_tups {G : Hp} : ∀ {zs : List (Addr × List Int)}, (∀ z ∈ zs, SqT K G z.1 (z.2.map V.int)) → RpA K G (zs.map fun z => V.ref z.1) ((zs.map (·.2)).map tupI)
  | [], _ => .nil
  | z :: zs, h => .cons (.tup (h z List.mem_cons_self) (RpA.of_ints z.2)) (rpa_of_tups fun y hy => h y (List.mem_cons_of_mem _ hy))
theorem sim_sortZ : SimCN K (rSortZ K) rSortZD := fun G H xs ds P gh r q Q k => by
  unfold rSortZD at q
  split at q
  · obtain ⟨nss, rfl, q⟩ := q
    obtain ⟨a, ys, rfl, h1, h2⟩ := one_list gh r
    obtain ⟨zs, rfl, e2, e3⟩ := rpa_tups h2
    cases zs with
    | nil => cases e2
    | cons z0 zr =>
      have e20 : z0.2 = [] := (List.cons.inj e2).1
      refine ⟨a, z0, zr, rfl, h1, e20, fun z hz => sqT_mono gh (e3 z hz), fun zs' p hp ho hn => ?_⟩
      have e4 : ∀ z ∈ zs', SqT K G z.1 (z.2.map V.int) := fun z hz => e3 z (hp.mem_iff.mp hz)
      refine k p _ ((zs'.map (·.2)).map tupI) G _ (Go.grow gh (same_new hn)) hn (same_none gh hn) upd_same (rpa_of_tups e4) (q (zs'.map (·.2)) ?_ (List.pairwise_map.mpr ho))
      rw [← e2]
      exact hp.map _
  · exact q.elim
end
end TC
end Dt
namespace Dt
open PySem PySem.Spec PyProof.Rows L2
variable [TabG]
section TC
variable [TabC]
/-- a def of the module, n parameters and behind them the keyword-only kn -/
structure FnK (P : Program) (w : World) (K : PySem.W.Frag) (mg : Str → Option Value) (base : Heap) (x : Str) (k n : Nat) (kn : Str) (ps : List Str) (sp : Sp) : Prop where
  ex : ∃ (f : Addr) (fd : FuncData) (ds : List Value), FnOk P w K mg base CX0 k f fd ps sp ∧ mg x = some (.ref f) ∧ PySem.W.keepIn K (.ref f) = true ∧ Vals [V.non] ds ∧ Binds K fd ps ds ∧ KBn K fd ps n [kn] (fun us ws => us ++ ws) (fun vs zs => vs ++ zs)
def dCallD (w : RCD) (das : DA) : DE := fun ρ f P => das ρ f fun ds f1 => w (ds ++ [.none]) fun d => P d f1
def dCallKw (w : RCD) (das : DA) (dk : DE) : DE := fun ρ f P => das ρ f fun ds f1 => dk ρ f1 fun x f2 => w (ds ++ [x]) fun d => P d f2
section
variable {X : Cx} {mb : Option Addr} {js : Nat} {pn : Option V} {e ke : Expr} {es : List Expr} {tas : TA} {tk : TE} {das : DA} {dk : DE} {n k k' : Nat} {x kn : Str} {p pos kpos : Pos} {ps : List Str}
theorem xe_callD {w : RCD} (F : FnK X.prog X.w X.K X.mg X.base x k n kn ps (spP X.K w)) (hr : Room k' X.A) (hg : Gl X x) (ha : XA X mb js pn (e :: es) n tas das) (hk : k ≤ k' := by decide) (hdb : (x == ("__debug__" : Str)) = false := by decide)
    (he : starEach (e :: es) X.env = (false, eval e X.env) :: starEach es X.env := by rfl) (hpl : (backTo pos (starEach es X.env)).any (·.1) = false := by rfl) : XE X mb js pn (.Call (.Name x p) (e :: es) [] pos) (tCall (spP X.K w) [V.non] E0 tas) (dCallD w das) := by
  obtain ⟨f, fd, ds, F1, hm, hk1, hv, hb, _⟩ := F.ex
  refine ⟨pe_call F1 (hr.mono hk) hg hm hk1 hb hv pass0 ha.pe hdb he hpl, fun G H f σ ρ P S q Q kk => ha.sm G H f σ ρ _ S q _ fun vs ds f1 G1 H1 l1 g1 b1 r1 q1 => ?_⟩
  exact ⟨G1, ds ++ [.none], _, g1.gh, r1.app (.one .non), q1, fun v d G' H' g r pd => kk v d f1 G' H' (g1.trans g.pure) (b1.pur g) r pd⟩
theorem xe_callKw {w : RCD} (F : FnK X.prog X.w X.K X.mg X.base x k n kn ps (spP X.K w)) (hr : Room k' X.A) (hg : Gl X x) (ha : XA X mb js pn (e :: es) n tas das) (hke : XE X mb js pn ke tk dk) (hk : k ≤ k' := by decide)
    (hall : (backToKw pos (keywordEach [⟨some kn, ke, kpos⟩] X.env)).all (·.1.isSome) = true := by rfl) (hks : (backToKw pos (keywordEach [⟨some kn, ke, kpos⟩] X.env)).filterMap (·.1) = [kn] := by rfl) (hdb : (x == ("__debug__" : Str)) = false := by decide)
    (he : starEach (e :: es) X.env = (false, eval e X.env) :: starEach es X.env := by rfl)
    (hpl : ((backTo pos (starEach (e :: es) X.env)).any (·.1) || (backToKw pos (keywordEach [⟨some kn, ke, kpos⟩] X.env)).any (·.1.isNone)) = false := by rfl) :
    XE X mb js pn (.Call (.Name x p) (e :: es) [⟨some kn, ke, kpos⟩] pos) (tCallN n 1 (spP X.K w) (fun vs zs => vs ++ zs) E0 tas (tCons tk tNil)) (dCallKw w das dk) := by
  obtain ⟨f, fd, ds, F1, hm, hk1, _, _, hb⟩ := F.ex
  refine ⟨pe_callN F1 (hr.mono hk) hg hm hk1 hb pass0 ha.pe (pk_cons hke.pe pk_nil) hall hks hdb he hpl, fun G H f σ ρ P S q Q kk => ha.sm G H f σ ρ _ S q _ fun vs ds f1 G1 H1 l1 g1 b1 r1 q1 => ?_⟩
  refine hke.sm G1 H1 f1 σ ρ _ (S.go g1 b1) q1 _ fun v d f2 G2 H2 g2 b2 r2 q2 => ?_
  refine ⟨by rw [r1.len]; exact l1, rfl, G2, ds ++ [d], _, g2.gh, (r1.mono g2.gg).app (.one r2), q2, fun v d G' H' g r pd => kk v d f2 G' H' ((g1.trans g2).trans g.pure) (b2.pur g) r pd⟩
end
end TC
section
variable {P : Program} {w : World} {K : PySem.W.Frag} {mg : Str → Option Value} {base : Heap} {x kn : Str} {st : Stmt} {f : Addr} {fd : FuncData} {N ps : List Str} {k n : Nat}
theorem fnK_mk {wd : RCD} (F : FunD K x x (defArgs st) (defBody st) (defScope st) [] [(kn, .non)] f fd) (sc : FnScope N ps (defScope st)) (hm : mg x = some (.ref f)) (hn : n + 1 = ps.length)
    (hb0 : ∀ (D : Addr) (doc pm : Value) (an : Option Addr) (cdv ct : Value) (us ks : List Value), us.length = n → ks.length = 1 → KwChain D ([kn].zip ks) (bindArgs (PySem.W.fnOf x x (defArgs st) (defBody st) (defScope st) .none (.ref D) doc pm an cdv ct) ⟨us, []⟩) (ps.zip (us ++ ks)))
    (hbk : ∀ (kV doc pm : Value) (an : Option Addr) (cdv ct : Value) (us ws : List Value), us.length = n → ws.length = 1 → bindArgs (PySem.W.fnOf x x (defArgs st) (defBody st) (defScope st) .none kV doc pm an cdv ct) ⟨us, [kn].zip ws⟩ = pure (ps.zip (us ++ ws)))
    (hw : ∀ ds P, wd ds P → ds.length = ps.length) (hN : ps.length ≤ N.length)
    (body : ∀ (cdv : Value) (A : Around) (outer : List Env) (s : Shared) (H : Hp) (E : XK), Room k (A.deeper (envOfC x (defScope st) s.heap.objs.size f cdv)) →
      ∃ ts ds, XSs (cxOf CX0 P w K mg base N x (defScope st) f cdv A outer s H E).nox none 1000000 none (defBody st) ts ds ∧ ∀ args Q, wd args Q → ds { nx := fun _ _ => Q .none, rt := fun d _ => Q d, rn := fun es _ => Q (.list es) } (rho0 N args) 0) :
    FnK P w K mg base x (k + 1) n kn ps (spP K wd) := by
  obtain ⟨ds, hv, hbind⟩ := F.binds0 (ps := ps) n (by simp) (by simpa using hn) hb0
  have hkb : KBn K fd ps n [kn] (fun us ws => us ++ ws) (fun vs zs => vs ++ zs) := by
    obtain ⟨oc, od, dV, kV, doc, pm, an, cdv, ct, osl, rfl, lk, hcd, hD, hK⟩ := F.ex
    rcases hD with ⟨_, rfl⟩ | ⟨e, _⟩
    · exact ⟨fun s us ws X l1 l2 => .of_eq (hbk kV doc pm an cdv ct us ws l1 (by simpa using l2)), fun r1 r2 => r1.append r2⟩
    · exact absurd rfl e
  refine ⟨f, fd, ds, ?_, hm, F.kp, hv, hbind, hkb⟩
  refine F.ok sc (fun vs H Q E h => ?_) (fun cdv A outer s H vs Q E hr h => ?_)
  · obtain ⟨G, ds, P', gh, r, q, _⟩ := h
    rw [r.len, hw ds P' q]
  · obtain ⟨G, ds, P', gh, r, q, kk⟩ := h
    obtain ⟨ts, dd, X1, rd⟩ := body cdv A outer s H E hr
    have hl := hw ds P' q
    refine ⟨ts, PSs.nox X1.pe, X1.sm G G H _ _ (rho0 N ds) 0 (L2.start N vs) H ⟨G, start_stt gh r (by omega), Go.refl gh, Same.refl G, fun i es p e => ?_⟩ (rd ds P' q) ?_⟩
    · unfold rho0 at e
      rw [List.getElem?_append] at e
      split at e
      · rw [List.getElem?_map] at e
        cases q : ds[i]? with
        | none =>
          rw [q] at e
          cases e
        | some d =>
          rw [q] at e
          cases e
      · rw [List.getElem?_replicate] at e
        split at e <;> cases e
    · refine ⟨fun ρ f σ H' a q' => ?_, fun v d f G' H' g b r' q' => kk v d G' H' g r' q', fun p us es f G' H' g b h0 gp hp r' q' => kk (.ref p) (.list es) (upd G' p (.lst us)) H' (g.add h0 gp hp) (.lst upd_same (r'.mono (same_new gp))) q', fun _ _ _ _ _ z => z.elim, fun _ _ _ _ _ z => z.elim, Xt.no⟩
      obtain ⟨G', S', g', _, _⟩ := a
      exact kk .non .none G' H' g' .non q'
end
section TC
variable [TabC]
end TC
end Dt
namespace Mt
open PySem Dt
theorem lex_anti : ∀ {xs ys : List Int}, HT.lexLt xs ys = false → HT.lexLt ys xs = false → xs = ys
  | [], [], _, _ => rfl
  | [], y :: ys, h, _ => by
    rw [HT.lexLt_nil_cons] at h
    cases h
  | x :: xs, [], _, h => by
    rw [HT.lexLt_nil_cons] at h
    cases h
  | x :: xs, y :: ys, h1, h2 => by
    rw [HT.lexLt_cons] at h1 h2
    by_cases e : x = y
    · subst e
      rw [if_pos rfl] at h1 h2
      rw [lex_anti h1 h2]
    · rw [if_neg e] at h1
      rw [if_neg (fun z => e z.symm)] at h2
      have := of_decide_eq_false h1
      have := of_decide_eq_false h2
      omega
/-- all rows of days below n, as the program makes them -/
def subs : Nat → List (List Int)
  | 0 => [[]]
  | n + 1 => subs n ++ (subs n).map fun r => r ++ [(n : Int)]
theorem subs_succ (n : Nat) : subs (n + 1) = subs n ++ (subs n).map fun r => r ++ [(n : Int)] := rfl
theorem subs_len : ∀ n, (subs n).length = 2 ^ n
  | 0 => rfl
  | n + 1 => by
    unfold subs
    rw [List.length_append, List.length_map, subs_len n, Nat.pow_succ]
    omega
theorem subs_head : ∀ n, ∃ r, subs n = [] :: r
  | 0 => ⟨[], rfl⟩
  | n + 1 => by
    obtain ⟨r, e⟩ := subs_head n
    unfold subs
    rw [e]
    exact ⟨_, rfl⟩
def leL (x y : List Int) : Bool := !HT.lexLt y x
def srt (n : Nat) : List (List Int) := (subs n).mergeSort leL
theorem srt_perm (n : Nat) : (srt n).Perm (subs n) := List.mergeSort_perm _ _
theorem srt_pw (n : Nat) : (srt n).Pairwise (fun x y => HT.lexLt y x = false) := by
  have h := List.pairwise_mergeSort (le := leL) (fun a b c h1 h2 => ?_) (fun a b => ?_) (subs n)
  · refine h.imp fun {x y} h => ?_
    have h : (!HT.lexLt y x) = true := h
    simpa using h
  · have h1 : (!HT.lexLt b a) = true := h1
    have h2 : (!HT.lexLt c b) = true := h2
    show (!HT.lexLt c a) = true
    rw [Bool.not_eq_true'] at h1 h2 ⊢
    exact NtL.lex_tr _ _ _ h1 h2
  · show (!HT.lexLt b a || !HT.lexLt a b) = true
    cases e : HT.lexLt b a with
    | false => rfl
    | true =>
      rw [NtL.lex_asym _ _ e]
      rfl
/-- what sorted gives is that -/
theorem srtL_uniq {n : Nat} {l : List (List Int)} (hp : l.Perm (subs n)) (ho : l.Pairwise (fun x y => HT.lexLt y x = false)) : l = srt n :=
  List.Perm.eq_of_pairwise (le := fun x y => HT.lexLt y x = false) (fun a b _ _ h1 h2 => lex_anti h2 h1) ho (srt_pw n) (hp.trans (srt_perm n).symm)
theorem subs_row : ∀ n, ∀ r ∈ subs n, r.length ≤ n ∧ r.Pairwise (· < ·) ∧ ∀ x ∈ r, 0 ≤ x ∧ x < (n : Int)
  | 0, r, hr => by
    have : r = [] := by simpa [subs] using hr
    subst this
    exact ⟨Nat.le_refl _, List.Pairwise.nil, fun x hx => by cases hx⟩
  | n + 1, r, hr => by
    unfold subs at hr
    rcases List.mem_append.mp hr with h | h
    · obtain ⟨h1, h2, h3⟩ := subs_row n r h
      exact ⟨by omega, h2, fun x hx => ⟨(h3 x hx).1, by have := (h3 x hx).2; omega⟩⟩
    · obtain ⟨q, hq, rfl⟩ := List.mem_map.mp h
      obtain ⟨h1, h2, h3⟩ := subs_row n q hq
      refine ⟨by rw [List.length_append, List.length_singleton]; omega, ?_, fun x hx => ?_⟩
      · refine List.pairwise_append.mpr ⟨h2, List.pairwise_singleton _ _, fun a ha b hb => ?_⟩
        rw [List.mem_singleton.mp hb]
        exact (h3 a ha).2
      · rcases List.mem_append.mp hx with hx | hx
        · exact ⟨(h3 x hx).1, by have := (h3 x hx).2; omega⟩
        · rw [List.mem_singleton.mp hx]
          exact ⟨by omega, by omega⟩
/-- a number of times, or none -/
def optD : Option Int → PyData
  | none => .none
  | some m => .int m
def okT (r : Rule) (o : Option Int) (row : List Int) : Bool := match o with
  | none => true
  | some m => decide (((done r row).length : Int) = m)
def rowsOf (r : Rule) (n : Nat) (o : Option Int) : List (List Int) := (srt n).filter (okT r o)
def RowsOk (a : Rule × Int × Option Int) : Prop := a.1.Ok ∧ (0 ≤ a.2.1 ∧ a.2.1 ≤ 14) ∧ ∀ m, a.2.2 = some m → 0 ≤ m ∧ m ≤ 14
def wRowsOf : List PyData → (List PyData → Prop) → Prop := wN (fun a : Rule × Int × Option Int => RowsOk a) (fun a => [ruleD a.1, .int a.2.1, optD a.2.2]) (fun a => (rowsOf a.1 a.2.1.toNat a.2.2).map tupI)
def wCount : RCD := wF (fun a : Rule × Int × Option Int => RowsOk a) (fun a => [ruleD a.1, .int a.2.1, optD a.2.2]) (fun a => .int ((rowsOf a.1 a.2.1.toNat a.2.2).length : Int))
theorem pow14 {n : Nat} (h : n ≤ 14) : 2 ^ n ≤ 16384 := Nat.pow_le_pow_right (n := 2) (by decide) h
theorem srt_len (n : Nat) : (srt n).length = 2 ^ n := by rw [(srt_perm n).length_eq, subs_len]
theorem rows_len14 {r : Rule} {n : Nat} {o : Option Int} (h : n ≤ 14) : (rowsOf r n o).length ≤ 16384 := by
  have h1 := List.length_filter_le (okT r o) (srt n)
  rw [srt_len] at h1
  have := pow14 h
  unfold rowsOf
  omega
/-- the number of them: no need to sort -/
theorem rows_count (r : Rule) (n : Nat) (o : Option Int) : (rowsOf r n o).length = ((subs n).filter (okT r o)).length := ((srt_perm n).filter _).length_eq
theorem tup_snoc (row : List Int) (j : Int) : PyData.tuple (row.map PyData.int ++ [PyData.int j]) = tupI (row ++ [j]) := by
  unfold tupI
  rw [List.map_append]
  rfl
theorem tups_succ (j : Nat) : (subs (j + 1)).map tupI = (subs j).map tupI ++ (subs j).map (fun row => tupI (row ++ [(j : Int)])) := by
  rw [subs_succ, List.map_append, List.map_map]
  rfl
theorem srt_row {n : Nat} {row : List Int} (h : row ∈ srt n) : row.length ≤ n ∧ row.Pairwise (· < ·) ∧ ∀ x ∈ row, 0 ≤ x ∧ x < (n : Int) := subs_row n row ((srt_perm n).mem_iff.mp h)
end Mt
namespace Dt
open PySem PySem.Spec PyProof.Rows L2
variable [TabG]
section TC
variable [TabC]
/-- certainly raised: the class goes to R -/
abbrev DR := Rho → Nat → (Addr → Prop) → Prop
abbrev WK (E : XK) : L2.WX := fun cls d _ H => E cls d H
def SimR (K : PySem.W.Frag) (mb : Option Addr) (js : Nat) (pn : Option V) (E : XK) (te : TE) (dr : DR) : Prop := ∀ (G H : Hp) (f : Nat) (σ : L2.St) (ρ : Rho) (R : Addr → Prop), Stt K mb js pn G H f σ ρ → dr ρ f R →
  ∀ Q : VK, (∀ C f' G' H', Go mb G H G' H' → Bag mb f' H' → R C → E (.ref C) none H') → te σ H Q
structure XR (X : Cx) (mb : Option Addr) (js : Nat) (pn : Option V) (E : XK) (e : Expr) (te : TE) (dr : DR) : Prop where
  pe : PE X e te
  sm : SimR X.K mb js pn E te dr
/-- pure up to there: the class C is raised -/
def spX (K : PySem.W.Frag) (w : List PyData → Addr → Prop) : Sp := fun vs H _ E => ∃ (G : Hp) (ds : List PyData) (C : Addr), Same G H ∧ RpA K G vs ds ∧ w ds C ∧ ∀ G' H', Go none G H G' H' → E (.ref C) none H'
structure FnX (P : Program) (w : World) (K : PySem.W.Frag) (mg : Str → Option Value) (base : Heap) (x : Str) (k : Nat) (ps : List Str) (sp : Sp) : Prop where
  ex : ∃ (f : Addr) (fd : FuncData), FnOk P w K mg base (L2N.CX P w) k f fd ps sp ∧ mg x = some (.ref f) ∧ PySem.W.keepIn K (.ref f) = true ∧ Binds K fd ps []
structure FnKX (P : Program) (w : World) (K : PySem.W.Frag) (mg : Str → Option Value) (base : Heap) (x : Str) (k n : Nat) (kn : Str) (ps : List Str) (sp : Sp) : Prop where
  ex : ∃ (f : Addr) (fd : FuncData) (ds : List Value), FnOk P w K mg base (L2N.CX P w) k f fd ps sp ∧ mg x = some (.ref f) ∧ PySem.W.keepIn K (.ref f) = true ∧ Vals [V.non] ds ∧ Binds K fd ps ds ∧ KBn K fd ps n [kn] (fun us ws => us ++ ws) (fun vs zs => vs ++ zs)
def dCallX (w : List PyData → Addr → Prop) (das : DA) : DR := fun ρ f R => das ρ f fun ds _ => ∃ C, w ds C ∧ R C
def dCallXD (w : List PyData → Addr → Prop) (das : DA) : DR := fun ρ f R => das ρ f fun ds _ => ∃ C, w (ds ++ [.none]) C ∧ R C
def dCallXK (w : List PyData → Addr → Prop) (das : DA) (dk : DE) : DR := fun ρ f R => das ρ f fun ds f1 => dk ρ f1 fun x _ => ∃ C, w (ds ++ [x]) C ∧ R C
def dArgR (das : DR) : DR := das
section
variable {X : Cx} {mb : Option Addr} {js : Nat} {pn : Option V} {E : XK} {e ke : Expr} {es : List Expr} {tas : TA} {te tk : TE} {das : DA} {dk : DE} {dr : DR} {n k k' : Nat} {x kn : Str} {p pos kpos : Pos} {ps : List Str}
theorem pass_of (tk : L2N.Takes X (WK E)) : Passes (L2N.CX X.prog X.w) X E := L2N.passes_call tk fun _ _ _ _ h => h
theorem xr_call {w : List PyData → Addr → Prop} (tk : L2N.Takes X (WK E)) (F : FnX X.prog X.w X.K X.mg X.base x k ps (spX X.K w)) (hr : Room k' X.A) (hg : Gl X x) (ha : XA X mb js pn (e :: es) n tas das) (hk : k ≤ k' := by decide) (hdb : (x == ("__debug__" : Str)) = false := by decide)
    (he : starEach (e :: es) X.env = (false, eval e X.env) :: starEach es X.env := by rfl) (hpl : (backTo pos (starEach es X.env)).any (·.1) = false := by rfl) : XR X mb js pn E (.Call (.Name x p) (e :: es) [] pos) (tCall (spX X.K w) [] E tas) (dCallX w das) := by
  obtain ⟨f, fd, F1, hm, hk1, hb⟩ := F.ex
  refine ⟨pe_call F1 (hr.mono hk) hg hm hk1 hb .nil (pass_of tk) ha.pe hdb he hpl, fun G H f σ ρ R S q Q kk => ha.sm G H f σ ρ _ S q _ fun vs ds f1 G1 H1 l1 g1 b1 r1 q1 => ?_⟩
  obtain ⟨C, hw, hR⟩ := q1
  show spX X.K w (vs ++ []) H1 Q E
  rw [List.append_nil]
  exact ⟨G1, ds, C, g1.gh, r1, hw, fun G' H' g => kk C f1 G' H' (g1.trans g.pure) (b1.pur g) hR⟩
theorem xr_callD {w : List PyData → Addr → Prop} (tk : L2N.Takes X (WK E)) (F : FnKX X.prog X.w X.K X.mg X.base x k n kn ps (spX X.K w)) (hr : Room k' X.A) (hg : Gl X x) (ha : XA X mb js pn (e :: es) n tas das) (hk : k ≤ k' := by decide) (hdb : (x == ("__debug__" : Str)) = false := by decide)
    (he : starEach (e :: es) X.env = (false, eval e X.env) :: starEach es X.env := by rfl) (hpl : (backTo pos (starEach es X.env)).any (·.1) = false := by rfl) : XR X mb js pn E (.Call (.Name x p) (e :: es) [] pos) (tCall (spX X.K w) [V.non] E tas) (dCallXD w das) := by
  obtain ⟨f, fd, ds, F1, hm, hk1, hv, hb, _⟩ := F.ex
  refine ⟨pe_call F1 (hr.mono hk) hg hm hk1 hb hv (pass_of tk) ha.pe hdb he hpl, fun G H f σ ρ R S q Q kk => ha.sm G H f σ ρ _ S q _ fun vs ds f1 G1 H1 l1 g1 b1 r1 q1 => ?_⟩
  obtain ⟨C, hw, hR⟩ := q1
  exact ⟨G1, ds ++ [.none], C, g1.gh, r1.app (.one .non), hw, fun G' H' g => kk C f1 G' H' (g1.trans g.pure) (b1.pur g) hR⟩
theorem xr_callKw {w : List PyData → Addr → Prop} (tk : L2N.Takes X (WK E)) (F : FnKX X.prog X.w X.K X.mg X.base x k n kn ps (spX X.K w)) (hr : Room k' X.A) (hg : Gl X x) (ha : XA X mb js pn (e :: es) n tas das) (hke : XE X mb js pn ke te dk) (hk : k ≤ k' := by decide)
    (hall : (backToKw pos (keywordEach [⟨some kn, ke, kpos⟩] X.env)).all (·.1.isSome) = true := by rfl) (hks : (backToKw pos (keywordEach [⟨some kn, ke, kpos⟩] X.env)).filterMap (·.1) = [kn] := by rfl) (hdb : (x == ("__debug__" : Str)) = false := by decide)
    (he : starEach (e :: es) X.env = (false, eval e X.env) :: starEach es X.env := by rfl)
    (hpl : ((backTo pos (starEach (e :: es) X.env)).any (·.1) || (backToKw pos (keywordEach [⟨some kn, ke, kpos⟩] X.env)).any (·.1.isNone)) = false := by rfl) :
    XR X mb js pn E (.Call (.Name x p) (e :: es) [⟨some kn, ke, kpos⟩] pos) (tCallN n 1 (spX X.K w) (fun vs zs => vs ++ zs) E tas (tCons te tNil)) (dCallXK w das dk) := by
  obtain ⟨f, fd, ds, F1, hm, hk1, _, _, hb⟩ := F.ex
  refine ⟨pe_callN F1 (hr.mono hk) hg hm hk1 hb (pass_of tk) ha.pe (pk_cons hke.pe pk_nil) hall hks hdb he hpl, fun G H f σ ρ R S q Q kk => ha.sm G H f σ ρ _ S q _ fun vs ds f1 G1 H1 l1 g1 b1 r1 q1 => ?_⟩
  refine hke.sm G1 H1 f1 σ ρ _ (S.go g1 b1) q1 _ fun v d f2 G2 H2 g2 b2 r2 q2 => ?_
  obtain ⟨C, hw, hR⟩ := q2
  exact ⟨by rw [r1.len]; exact l1, rfl, G2, ds ++ [d], C, g2.gh, (r1.mono g2.gg).app (.one r2), hw, fun G' H' g => kk C f2 G' H' ((g1.trans g2).trans g.pure) (b2.pur g) hR⟩
/-- len(e), list(e), e raises -/
theorem xr_callB {id : String} {r : List V → Hp → VK → Prop} (hc : CallR X (.builtin id) r) (hg : Gl X x) (hm : X.mg x = none) (hv : bootBuiltins x = some (.builtin id)) (h : XR X mb js pn E e te dr) (hn : x ≠ "__name__" := by decide) (hdb : (x == ("__debug__" : Str)) = false := by decide)
    (he : starEach [e] X.env = (false, eval e X.env) :: starEach [] X.env := by rfl) (hpl : (backTo pos (starEach [] X.env)).any (·.1) = false := by rfl) : XR X mb js pn E (.Call (.Name x p) [e] [] pos) (tCB r (tCons te tNil)) dr :=
  ⟨pe_callB hc hg hm hv (pa_cons h.pe pa_nil he) hn hdb he hpl, fun G H f σ ρ R S q Q kk => h.sm G H f σ ρ R S q _ kk⟩
end
def dRaise (E : XK) (dr : DR) : DS := fun D ρ f => D.wx = E ∧ dr (vw ρ) f D.rs
def dRaiseC (E : XK) (C : Addr) : DS := fun D _ _ => D.wx = E ∧ D.rs C
section
variable {K : PySem.W.Frag} {mb : Option Addr} {js : Nat} {pn : Option V} {E : XK} {te : TE} {dr : DR}
theorem simR_s (h : SimR K mb js pn E te dr) {ts : TS} (ht : ∀ D σ H, (∀ Q, te σ H Q) → ts D σ H) : SimS K mb js pn ts (dRaise E dr) := fun L G0 H0 D E' ρ f σ H a q l => by
  obtain ⟨G, S, g0, sL, ow⟩ := a
  obtain ⟨ew, q⟩ := q
  refine ht _ _ _ fun Q => h _ H f σ _ _ S.borrow q Q fun C f' G' H' g b hR => ?_
  rw [← ew]
  exact l.xx.rs C f' G H' (g0.trans ⟨Same.refl G, (S.gp_same.trans g.gg).trans g.gh, g.hh, g.hd, fun _ _ h => .inl h, g.tb⟩) b hR
end
section
variable {X : Cx} {mb : Option Addr} {js : Nat} {pn : Option V} {E : XK} {e : Expr} {te : TE} {dr : DR} {pos pos' : Pos} {x : Str} {C : Addr}
theorem xs_exprR (h : XR X mb js pn E e te dr) (hs : swapsWith e none pos.line X.env = pure false := by rfl) : XS X mb js pn (.Expr e pos) (tDrop te) (dRaise E dr) := ⟨ps_expr h.pe hs, simR_s h.sm fun D σ H q => q _⟩
theorem xs_setR (i : Nat) (hN : X.N.Nodup) (h : XR X mb js pn E e te dr) (hi : X.N[i]? = some x := by rfl) (hx : Loc X.env.scope x := by first | exact Or.inl rfl | exact Or.inr rfl) (hs : swapsWith e (some (.Name x pos')) pos.line X.env = pure false := by rfl) (hf : X.fn x = true ∨ X.env.scope.names.lookup x = some .local := by first | exact .inl rfl | exact .inr rfl | assumption) :
    XS X mb js pn (.Assign [.Name x pos'] e pos) (tAsg te (gName i)) (dRaise E dr) := ⟨ps_set hN hi hx h.pe hs hf, simR_s h.sm fun D σ H q => q _⟩
theorem xs_retR (h : XR X mb js pn E e te dr) : XS X mb js pn (.Return (some e) pos) (tRet te) (dRaise E dr) := ⟨ps_ret h.pe, simR_s h.sm fun D σ H q => q _⟩
/-- what is asked of an exception class of one's own -/
structure ExcK (K : PySem.W.Frag) (mg : Str → Option Value) (x : Str) (C : Addr) : Prop where
  g : mg x = some (.ref C)
  ei : PySem.W.excIn K C [.type "ValueError", .type "Exception", .type "BaseException", .type "object"] "ValueError.__new__" = true
  kp : PySem.W.keepIn K (.ref C) = true
  sb : PySem.W.subIn K (.ref C) (.type "BaseException") = some true
  ty : PySem.W.typeIn K (.ref C) = some (.type "type")
theorem xs_raise {m : Str} {j : Nat} {p p2 p3 : Pos} (hc : X.calm = true) (tk : L2N.Takes X (WK E)) (c : ExcK X.K X.mg x C) (hg : Gl X x) (hdb : (x == ("__debug__" : Str)) = false := by decide) :
    XS X mb js pn (.Raise (some (.Call (.Name x p) [.Constant (.str m) j p2] [] p3)) none pos) (fun _ σ H => E (.ref C) none H) (dRaiseC E C) :=
  ⟨L2N.ps_raise hc tk (L2N.pmk_own PySem.F.excBase_ValueError c.ei c.g c.kp (raises_own c.sb c.ty) hg hdb), fun L G0 H0 D E' ρ f σ H a q l => by
    obtain ⟨G, S, g0, sL, ow⟩ := a
    obtain ⟨ew, q⟩ := q
    have := l.xx.rs C f G H g0 S.bi q
    rw [ew] at this
    exact this⟩
end
end TC
section
variable {P : Program} {w : World} {K : PySem.W.Frag} {mg : Str → Option Value} {base : Heap} {x kn : Str} {st : Stmt} {f : Addr} {fd : FuncData} {N ps : List Str} {k n : Nat}
theorem runX {wd : List PyData → Addr → Prop} {G H : Hp} {vs : List V} {ds : List PyData} {C : Addr} {E : XK} {X : Cx} {ts : TS} {dd : DS} {D : Ends} (gh : Same G H) (r : RpA X.K G vs ds) (hl : ds.length ≤ N.length) (X1 : XSs X none 1000000 none (defBody st) ts dd)
    (rd : dd { nx := fun _ _ => False, rt := fun _ _ => False, wx := E, rs := fun C' => C' = C } (rho0 N ds) 0) (kk : ∀ G' H', Go none G H G' H' → E (.ref C) none H') : ts D (L2.start N vs) H := by
  have S0 := start_stt (N := N) gh r hl
  refine X1.sm G G H _ _ (rho0 N ds) 0 (L2.start N vs) H ⟨G, S0, Go.refl gh, Same.refl G, fun i es p e => ?_⟩ rd ?_
  · obtain ⟨_, _, _, h2, _⟩ := S0.ow i es e
    unfold rho0 at e
    rw [List.getElem?_append] at e
    split at e
    · rw [List.getElem?_map] at e
      cases q : ds[i]? with
      | none =>
        rw [q] at e
        cases e
      | some d =>
        rw [q] at e
        cases e
    · rw [List.getElem?_replicate] at e
      split at e <;> cases e
  · refine ⟨fun _ _ _ _ _ z => z.elim, fun _ _ _ _ _ _ _ _ z => z.elim, fun _ _ _ _ _ _ _ _ _ _ _ _ z => z.elim, fun _ _ _ _ _ z => z.elim, fun _ _ _ _ _ z => z.elim, ⟨fun C' f' G' H' g b hC => ?_⟩⟩
    rw [hC]
    exact kk G' H' g
theorem fnX_mk {wd : List PyData → Addr → Prop} (F : FunD K x x (defArgs st) (defBody st) (defScope st) [] [] f fd) (sc : FnScope N ps (defScope st)) (hm : mg x = some (.ref f)) (hb : Binds K fd ps []) (hw : ∀ ds C, wd ds C → ds.length = ps.length) (hN : ps.length ≤ N.length)
    (body : ∀ (cdv : Value) (A : Around) (outer : List Env) (s : Shared) (H : Hp) (E : XK), Room k (A.deeper (envOfC x (defScope st) s.heap.objs.size f cdv)) → L2N.Takes (cxOf (L2N.CX P w) P w K mg base N x (defScope st) f cdv A outer s H E) (WK E) →
      ∃ ts ds, XSs (cxOf (L2N.CX P w) P w K mg base N x (defScope st) f cdv A outer s H E) none 1000000 none (defBody st) ts ds ∧ ∀ args C, wd args C → ds { nx := fun _ _ => False, rt := fun _ _ => False, wx := E, rs := fun C' => C' = C } (rho0 N args) 0) :
    FnX P w K mg base x (k + 1) ps (spX K wd) := by
  refine ⟨f, fd, ?_, hm, F.kp, hb⟩
  refine F.ok sc (fun vs H Q E h => ?_) (fun cdv A outer s H vs Q E hr h => ?_)
  · obtain ⟨G, ds, C, gh, r, q, _⟩ := h
    rw [r.len, hw ds C q]
  · obtain ⟨G, ds, C, gh, r, q, kk⟩ := h
    obtain ⟨ts, dd, X1, rd⟩ := body cdv A outer s H E hr (L2N.takes_of rfl rfl rfl rfl)
    exact ⟨ts, X1.pe, runX (wd := wd) gh r (by have := hw ds C q; omega) X1 (rd ds C q) kk⟩
theorem fnKX_mk {wd : List PyData → Addr → Prop} (F : FunD K x x (defArgs st) (defBody st) (defScope st) [] [(kn, .non)] f fd) (sc : FnScope N ps (defScope st)) (hm : mg x = some (.ref f)) (hn : n + 1 = ps.length)
    (hb0 : ∀ (D : Addr) (doc pm : Value) (an : Option Addr) (cdv ct : Value) (us ks : List Value), us.length = n → ks.length = 1 → KwChain D ([kn].zip ks) (bindArgs (PySem.W.fnOf x x (defArgs st) (defBody st) (defScope st) .none (.ref D) doc pm an cdv ct) ⟨us, []⟩) (ps.zip (us ++ ks)))
    (hbk : ∀ (kV doc pm : Value) (an : Option Addr) (cdv ct : Value) (us ws : List Value), us.length = n → ws.length = 1 → bindArgs (PySem.W.fnOf x x (defArgs st) (defBody st) (defScope st) .none kV doc pm an cdv ct) ⟨us, [kn].zip ws⟩ = pure (ps.zip (us ++ ws)))
    (hw : ∀ ds C, wd ds C → ds.length = ps.length) (hN : ps.length ≤ N.length)
    (body : ∀ (cdv : Value) (A : Around) (outer : List Env) (s : Shared) (H : Hp) (E : XK), Room k (A.deeper (envOfC x (defScope st) s.heap.objs.size f cdv)) → L2N.Takes (cxOf (L2N.CX P w) P w K mg base N x (defScope st) f cdv A outer s H E) (WK E) →
      ∃ ts ds, XSs (cxOf (L2N.CX P w) P w K mg base N x (defScope st) f cdv A outer s H E) none 1000000 none (defBody st) ts ds ∧ ∀ args C, wd args C → ds { nx := fun _ _ => False, rt := fun _ _ => False, wx := E, rs := fun C' => C' = C } (rho0 N args) 0) :
    FnKX P w K mg base x (k + 1) n kn ps (spX K wd) := by
  obtain ⟨ds, hv, hbind⟩ := F.binds0 (ps := ps) n (by simp) (by simpa using hn) hb0
  have hkb : KBn K fd ps n [kn] (fun us ws => us ++ ws) (fun vs zs => vs ++ zs) := by
    obtain ⟨oc, od, dV, kV, doc, pm, an, cdv, ct, osl, rfl, lk, hcd, hD, hK⟩ := F.ex
    rcases hD with ⟨_, rfl⟩ | ⟨e, _⟩
    · exact ⟨fun s us ws X l1 l2 => .of_eq (hbk kV doc pm an cdv ct us ws l1 (by simpa using l2)), fun r1 r2 => r1.append r2⟩
    · exact absurd rfl e
  refine ⟨f, fd, ds, ?_, hm, F.kp, hv, hbind, hkb⟩
  refine F.ok sc (fun vs H Q E h => ?_) (fun cdv A outer s H vs Q E hr h => ?_)
  · obtain ⟨G, ds, C, gh, r, q, _⟩ := h
    rw [r.len, hw ds C q]
  · obtain ⟨G, ds, C, gh, r, q, kk⟩ := h
    obtain ⟨ts, dd, X1, rd⟩ := body cdv A outer s H E hr (L2N.takes_of rfl rfl rfl rfl)
    exact ⟨ts, X1.pe, runX (wd := wd) gh r (by have := hw ds C q; omega) X1 (rd ds C q) kk⟩
end
section TC
variable [TabC]
end TC
end Dt
namespace DtZ
open PySem PySem.Spec PyProof.Rows
section
variable {prog : Program} {w : World} {A : Around} {E : Value → Shared → Prop} {s : Shared}
/-- the list's iterator has no more: StopIteration is raised, whatever is handled -/
theorem list_end_hot {it l x1 : Addr} {i : Nat} {items : Array Value} {Q : Value → Shared → Prop} (hot : HotX.HotAt A x1 s.heap) (n1 : x1 ≠ it) (hit : s.heap.IsListIter it l i) (hl : s.heap.IsList l items) (hx : items[i]? = none)
    (hE : ∀ h' e, Heap.ExtBut it s.heap h' → (∃ o, h'.get? e = some o ∧ o.cls = .type "StopIteration") → E (.ref e) { s with heap := h' }) : wpAny (model prog w) A (Builtin.SmallTypes.nextOf (.ref it)) Q E s := by
  obtain ⟨oi, hoi, hci, hdi⟩ := id hit; obtain ⟨ol, hol, _, nl, hdl⟩ := hl; obtain ⟨hh, o1, vs1, g1, d1, c1⟩ := hot
  unfold Builtin.SmallTypes.nextOf
  refine wpAny_bind (wpAny_callSpecial?_slot (name := Str.ofString "__next__") hit.typeIs PySem.slot_listiter_next (wpAny_call_entry PySem.slot_listiter_next hit.typeIs PySem.entry_listiter_next ?_ (PySem.args_listiter_next _)))
  show wpAny _ _ (field (.ref it) 0 >>= _) _ _ s; refine wpAny_bind (wpAny_field hoi hdi (x := .ref l) rfl ?_)
  show wpAny _ _ (if (Value.ref l == Value.none) = true then _ else _) _ _ s; rw [if_neg (show ¬ ((Value.ref l == Value.none) = true) from Bool.false_ne_true)]
  show wpAny _ _ (field (.ref it) 1 >>= _) _ _ s; refine wpAny_bind (wpAny_field hoi hdi (x := .int i 0) rfl ?_)
  show wpAny _ _ (seqItems? (.ref l) >>= _) _ _ s; refine wpAny_bind (wpAny_seqItems hol hdl ?_); simp only [Int.toNat_natCast, hx]
  refine wpAny_bind (wpAny_rule (wpAny_bind (wpAny_setField hoi hdi (by simp) ?_))); show wpAny _ _ (newExc (.type "StopIteration") [] >>= _) _ _ _; refine wpAny_bind ?_
  simp only [newExc, newTuple]; refine wpAny_bind (wpAny_newObj_type ?_ (by size_fits)); refine wpAny_bind (m := firstArgMember _ _) (wpAny_of_eq (a := Value.none) (by first | rfl | (simp only [firstArgMember]; rfl)) ?_); refine wpAny_newObj_type ?_ (by size_fits)
  have k1 : (s.heap.update it (Obj.mapFields (·.setIfInBounds 0 Value.none))).get? x1 = some o1 := (Heap.get?_update_other _ _ (Ne.symm n1)).trans g1
  refine HotX.raiseNew_hot ⟨hh, o1, vs1, Heap.get?_push_of_some _ (Heap.get?_push_of_some _ k1), d1, c1⟩ (Nat.ne_of_lt (Heap.lt_size (Heap.get?_push_of_some _ k1))) (Heap.get?_push_size _ rfl) rfl (by first | (simp; done) | (simp; omega) | (simp only [Array.size]; decide)) ?_
  refine hE _ _ (fun b o n e => ?_) ⟨_, Heap.get?_update_self _ (Heap.get?_push_size _ rfl) rfl, rfl⟩
  have k2 : (s.heap.update it (Obj.mapFields (·.setIfInBounds 0 Value.none))).get? b = some o := (Heap.get?_update_other _ _ (Ne.symm n)).trans e
  rw [Heap.get?_update_other _ _ (Nat.ne_of_gt (Heap.lt_size (Heap.get?_push_of_some _ k2)))]
  exact Heap.get?_push_of_some _ (Heap.get?_push_of_some _ k2)
/-- zip's __next__ where the first list has no more -/
theorem zip_end_hot {z TI TO i1 i2 l1 l2 x1 : Addr} {k1 k2 : Nat} {xs : Array Value} {a b : Value} {Q : Option Value → Shared → Prop} (hot : HotX.HotAt A x1 s.heap) (n1 : x1 ≠ z ∧ x1 ≠ TO ∧ x1 ≠ i1 ∧ x1 ≠ i2) (D : ZipApart z TI TO i1 i2 l1 l2) (hz : IsZip s.heap z TI TO .none) (hTI : IsPair s.heap TI (.ref i1) (.ref i2)) (hTO : IsPair s.heap TO a b)
    (h1 : s.heap.IsListIter i1 l1 k1) (h2 : s.heap.IsListIter i2 l2 k2) (hl1 : s.heap.IsList l1 xs) (hx : xs[k1]? = none)
    (hQ : ∀ h', (∀ c o, c ≠ z → c ≠ TO → c ≠ i1 → c ≠ i2 → s.heap.get? c = some o → h'.get? c = some o) → Q none { s with heap := h' }) : wpAny (model prog w) A (pyNext (.ref z)) Q E s := by
  have hT : s.TypeIs (.ref z) "zip" := ⟨_, hz, rfl⟩
  have core : ∀ (Q' : Fin → Shared → Prop) (E' : Value → Shared → Prop), (∀ h' e, (∀ c o, c ≠ z → c ≠ TO → c ≠ i1 → c ≠ i2 → s.heap.get? c = some o → h'.get? c = some o) → (∃ o, h'.get? e = some o ∧ o.cls = .type "StopIteration") → E' (.ref e) { s with heap := h' }) →
      wpAny (model prog w) A.in1 (Builtin.«zip.__next__» ⟨[.ref z], []⟩) Q' E' s := by
    intro Q' E' hE
    show wpAny _ _ (field (.ref z) 2 >>= _) _ _ _; refine wpAny_bind (wpAny_field hz rfl (x := .bool false) rfl ?_)
    show wpAny _ _ (field (.ref z) 3 >>= _) _ _ _; refine wpAny_bind (wpAny_field hz rfl (x := .ref TI) rfl (wpAny_bind (wpAny_seqItems hTI rfl ?_)))
    show wpAny _ _ (Builtin.SmallTypes.ownedTupleIsFree (.ref z) >>= _) _ _ _; refine wpAny_bind ?_; unfold Builtin.SmallTypes.ownedTupleIsFree
    refine wpAny_bind (wpAny_field hz rfl (x := .none) rfl (wpAny_pure ?_)); simp only [if_true]; refine wpAny_bind (wpAny_rule ?_); refine wpAny_bind (wpAny_field hz rfl (x := .ref TO) rfl ?_)
    refine wpAny_bind (wpAny_setField_rec hz (by simp) fun h₁ hz₁ s1 => ?_); have hz₁ : IsZip h₁ z TI TO .ellipsis := hz₁; refine wpAny_bind ?_
    simp only [List.zipIdx_cons, List.zipIdx_nil, List.forIn_cons, List.forIn_nil]; refine wpAny_bind (wpAny_bind (wpAny_onRaise ?_)); show wpAny _ _ (Builtin.SmallTypes.nextOf (.ref i1) >>= _) _ _ _
    obtain ⟨hh, o1, vs1, g1, d1, c1⟩ := hot
    refine wpAny_bind (list_end_hot (s := { s with heap := h₁ }) (x1 := x1) ⟨hh, o1, vs1, s1.extBut _ _ n1.1 g1, d1, c1⟩ n1.2.2.1 (h1.extBut s1.extBut D.i1z) (hl1.extBut s1.extBut D.l1z) hx fun h₂ e s2 he => ?_)
    obtain ⟨oe, hoe, hce⟩ := he
    have hz₂ : IsZip h₂ z TI TO .ellipsis := s2 _ _ (Ne.symm D.i1z) hz₁
    have ez : e ≠ z := fun y => by rw [y, hz₂] at hoe; cases hoe; simp at hce
    exact wpAny_setField_rec hz₂ (by simp) fun h₃ _ s3 => hE h₃ e (fun c o c1 _ c3 _ y => s3.extBut _ _ c1 (s2 _ _ c3 (s1.extBut _ _ c1 y))) ⟨oe, s3.extBut _ _ ez hoe, hce⟩
  unfold pyNext
  refine wpAny_bind (wpAny_attempt (wpAny_callSpecial?_slot (name := Str.ofString "__next__") hT F.slot_zip_next (wpAny_call_entry F.slot_zip_next hT F.entry_zip_next (core _ _ fun h' e hk he => ?_) (F.args_zip_next_1 _))))
  obtain ⟨oe, hoe, hce⟩ := he
  exact wpAny_bind (wpAny_isInstance (T := "StopIteration") (b := true) ⟨oe, hoe, hce⟩ isSubtype_stop (wpAny_pure (hQ _ hk)))
end
end DtZ
namespace DtZ
open PySem PySem.Spec PyProof.Rows L2
/-- p is the exception that is handled; it stood at the entry and nobody reaches it -/
def HotB (X : Cx) (p : Addr × Obj) : Prop := L2H.Hot1 X.A p ∧ X.s_0.heap.get? p.1 = some p.2 ∧ X.H_0 p.1 = none ∧ p.1 ∉ X.fs ∧ p.1 ∉ X.ex
theorem HotB.at {X : Cx} {p : Addr × Obj} {pins : List (Addr × Obj)} {σ : L2.St} {H : Hp} {s : Shared} (h : HotB X p) (I : Inv X pins σ H s) : HotX.HotAt X.A p.1 s.heap := by
  obtain ⟨⟨h1, vs, h2, h3⟩, h4, h5, h6, h7⟩ := h
  exact ⟨h1, p.2, vs, I.base.keep _ _ h4 h5 h6 h7, h2, h3⟩
structure TurnQ (P : Program) (w : World) (K : PySem.W.Frag) (p : Addr × Obj) (tg : Expr) (J : It) (fp : List Addr) (it : Addr) (tn : Nat → Heap → Prop) : Prop where
  t : Turn P w K tg J fp it tn
  item : ∀ (X : Cx), X.prog = P → X.w = w → X.K = K → HotB X p → (∀ b ∈ fp, p.1 ≠ b) → ∀ (i : Nat) (pins : List (Addr × Obj)) (s : Shared) (σ : L2.St) (H : Hp) (E : Value → Shared → Prop), Inv X pins σ H s → (∀ b ∈ fp, FpOk X pins H b) → tn i s.heap → J.go i H →
    wpAny (model P w) X.A (pyNext (.ref it)) (fun r s1 => ∃ u, r = some u ∧ wpAny (model P w) X.A (letOwnedTupleGo tg (.ref it) u) (fun _ s2 => ∃ x H', Inv X pins σ H' s2 ∧ RelV x u ∧ J.yld i H x H' ∧ tn (i + 1) s2.heap ∧ ∀ b ∈ fp, H' b = none) E s1) E s
  done : ∀ (X : Cx), X.prog = P → X.w = w → X.K = K → HotB X p → (∀ b ∈ fp, p.1 ≠ b) → ∀ (i : Nat) (pins : List (Addr × Obj)) (s : Shared) (σ : L2.St) (H : Hp) (E : Value → Shared → Prop), Inv X pins σ H s → (∀ b ∈ fp, FpOk X pins H b) → tn i s.heap → J.stop i H →
    wpAny (model P w) X.A (pyNext (.ref it)) (fun r s1 => r = none ∧ Inv X pins σ H s1) E s
/-- zip of two lists; it stops where the first one ends -/
def ItzQ (K : PySem.W.Frag) (a b : Addr) : It := { Itz K a b with stop := fun i H => ∃ xs ys : List V, SqL K H a xs ∧ SqL K H b ys ∧ xs.length ≤ i }
theorem turn_zipQ {P : Program} {w : World} {K : PySem.W.Frag} {p : Addr × Obj} {elts : List Expr} {kk : Nat} {tpos : Pos} {a b z TI TO i1 i2 : Addr} (D : ZipApart z TI TO i1 i2 a b) :
    TurnQ P w K p (.Tuple elts kk tpos) (ItzQ K a b) [z, TI, TO, i1, i2] z (fun i h => IsZip h z TI TO .none ∧ IsPair h TI (.ref i1) (.ref i2) ∧ (∃ x y, IsPair h TO x y) ∧ h.IsListIter i1 a i ∧ h.IsListIter i2 b i) := by
  have T0 : Turn P w K (.Tuple elts kk tpos) (Itz K a b) [z, TI, TO, i1, i2] z (fun i h => IsZip h z TI TO .none ∧ IsPair h TI (.ref i1) (.ref i2) ∧ (∃ x y, IsPair h TO x y) ∧ h.IsListIter i1 a i ∧ h.IsListIter i2 b i) := turn_zip D
  have five : ∀ {c : Addr} {Pr : Addr → Prop}, c ∈ [z, TI, TO, i1, i2] → Pr z → Pr TI → Pr TO → Pr i1 → Pr i2 → Pr c := fun {c Pr} hc p1 p2 p3 p4 p5 => by
    simp only [List.mem_cons, List.not_mem_nil, or_false] at hc
    rcases hc with rfl | rfl | rfl | rfl | rfl <;> assumption
  refine ⟨⟨T0.mem, T0.obj, T0.keep, T0.item, fun X h1 h2 h3 h4 i pins s σ H E I hf st q => T0.done X h1 h2 h3 h4 i pins s σ H E I hf st ?_, T0.self⟩, ?_, ?_⟩
  · obtain ⟨xs, ys, q1, q2, q3⟩ := q
    exact ⟨xs, ys, q1, q2, .inl q3⟩
  · intro X eP ew eK hot np i pins s σ H E I hf st hg
    subst eP ew eK
    obtain ⟨hz, hTI, ⟨x0, y0, hTO⟩, h1, h2⟩ := st; obtain ⟨xs, ys, x, y, qx, qy, ex, ey⟩ := hg
    obtain ⟨l1, rv1, p1, _⟩ := I.list qx; obtain ⟨l2, rv2, p2, _⟩ := I.list qy; obtain ⟨u1, e1, r1⟩ := rv1.get ex; obtain ⟨u2, e2, r2⟩ := rv2.get ey
    have zl : z < s.heap.objs.size := Heap.lt_size hz
    refine wpAny_pyNext_zip_item D hz hTI hTO h1 h2 p1.isList p2.isList (x := u1) (y := u2) (by simpa using e1) (by simpa using e2) fun h3 z3 t3 a3 b3 c3 n3 k3 => ⟨_, rfl, wpAny_letOwnedTupleGo_zip (s := { s with heap := h3 }) z3 fun h4 z4 sb => ?_⟩
    have c4 : h4.get? s.heap.objs.size = some { cls := .type "tuple", data := .seq #[u1, u2] } := (sb.2 _ (Nat.ne_of_gt zl)).trans c3
    have nw : ObjOk X.prog X.w (upd H s.heap.objs.size (.tup [x, y])) h4 s.heap.objs.size (.tup [x, y]) := ⟨by show 2 ≤ sizeLine; decide, [u1, u2], .cons r1 (.cons r2 .nil), ⟨_, c4, rfl, _, rfl⟩⟩
    have J : Inv X pins σ (upd H s.heap.objs.size (.tup [x, y])) { s with heap := h4 } := I.turnedNew (t' := s.toks) (ch := [z, TI, TO, i1, i2]) (fun c o hb q => (sb.2 c (fun y => hb (by simp [y]))).trans (k3 c o (fun y => hb (by simp [y])) (fun y => hb (by simp [y])) (fun y => hb (by simp [y])) (fun y => hb (by simp [y])) q)) hf (Nat.le_refl _) nw
    refine ⟨.ref s.heap.objs.size, _, J, rfl, ⟨_, x, y, rfl, I.hok.fresh (Nat.le_refl _), rfl, fun l hl => by rw [I.list_inj hl qx]; exact ex, fun l hl => by rw [I.list_inj hl qy]; exact ey⟩, ⟨z4, (sb.2 _ D.TIz).trans (k3 _ _ D.TIz D.TITO D.TIi1 D.TIi2 hTI), ⟨u1, u2, (sb.2 _ D.TOz).trans t3⟩, a3.at fun o q => (sb.2 _ D.i1z).trans q, b3.at fun o q => (sb.2 _ D.i2z).trans q⟩, fun c hc => ?_⟩
    have lt : c < s.heap.objs.size := five (Pr := fun c => c < s.heap.objs.size) hc zl (Heap.lt_size hTI) (Heap.lt_size hTO) (by obtain ⟨_, e, _⟩ := h1; exact Heap.lt_size e) (by obtain ⟨_, e, _⟩ := h2; exact Heap.lt_size e)
    rw [upd_ne (Nat.ne_of_lt lt)]
    exact (hf c hc).1
  · intro X eP ew eK hot np i pins s σ H E I hf st hg
    subst eP ew eK
    obtain ⟨hz, hTI, ⟨x0, y0, hTO⟩, h1, h2⟩ := st; obtain ⟨xs, ys, qx, qy, hle⟩ := hg
    obtain ⟨l1, rv1, p1, _⟩ := I.list qx; have n1 := rv1.length
    refine zip_end_hot (hot.at I) ⟨np _ (by simp), np _ (by simp), np _ (by simp), np _ (by simp)⟩ D hz hTI hTO h1 h2 p1.isList (by simp; omega) fun h3 k3 => ⟨rfl, I.turnedL (t' := s.toks) (ch := [z, TI, TO, i1, i2]) (fun c o hb q => k3 c o (fun y => hb (by simp [y])) (fun y => hb (by simp [y])) (fun y => hb (by simp [y])) (fun y => hb (by simp [y])) q) hf⟩
def PIEQ (X : Cx) (p : Addr × Obj) (pins : List (Addr × Obj)) (σ : L2.St) (tg : Expr) (R : It → Hp → Prop) (itv : Value) (s2 : Shared) : Prop :=
  ∃ (it : Addr) (fp : List Addr) (tn : Nat → Heap → Prop) (J : It) (H' : Hp), itv = .ref it ∧ Inv X pins σ H' s2 ∧ TurnQ X.prog X.w X.K p tg J fp it tn ∧ tn 0 s2.heap ∧ (∀ b ∈ fp, FpOk X pins H' b) ∧ R J H'
structure PIQ (X : Cx) (p : Addr × Obj) (tg iter : Expr) (wi : TI) : Prop where
  run : ∀ (pins : List (Addr × Obj)) (s : Shared) (σ : L2.St) (H : Hp) (R : It → Hp → Prop), Inv X pins σ H s → wi σ H R → wpAny (model X.prog X.w) X.A (eval iter X.env) (fun v s1 => wpAny (model X.prog X.w) X.A (pyIter v) (PIEQ X p pins σ tg R) X.xe s1) X.xe s
def iZipQ (K : PySem.W.Frag) (ta : TA) : TI := fun σ H R => ta σ H fun vs H1 => ∃ a b xs ys, vs = [.ref a, .ref b] ∧ SqL K H1 a xs ∧ SqL K H1 b ys ∧ R (ItzQ K a b) H1
theorem pi_zipQ {X : Cx} {q : Addr × Obj} {e e2 : Expr} {ta : TA} {p pos tpos : Pos} {elts : List Expr} {kk : Nat} (hg : Gl X "zip") (hm : X.mg "zip" = none) (ha : PA X [e, e2] ta)
    (hs : starEach [e, e2] X.env = (false, eval e X.env) :: starEach [e2] X.env := by rfl) (hpl : (backTo pos (starEach [e2] X.env)).any (·.1) = false := by rfl) : PIQ X q (.Tuple elts kk tpos) (.Call (.Name "zip" p) [e, e2] [] pos) (iZipQ X.K ta) := ⟨fun pins s σ H R I h => by
  refine Call_ (ld_blt I hg hm PyProof.Rows.boot_zip (PyProof.Rows.callWith_type1 (thn (ha.run pos pins s σ H _ I h) fun us s1 ⟨vs, H1, I1, r1, q1⟩ => ?_) hs hpl))
  obtain ⟨a, b, xs, ys, rfl, qx, qy, qR⟩ := q1
  cases r1 with
  | cons r rr => cases rr with
    | cons r' rr =>
      cases rr
      cases r
      cases r'
      have fr : ∀ c ∈ [s1.heap.objs.size + 4, s1.heap.objs.size + 2, s1.heap.objs.size + 3, s1.heap.objs.size, s1.heap.objs.size + 1], FpOk X pins H1 c := fun c hc => by
        have le : s1.heap.objs.size ≤ c := by
          simp only [List.mem_cons, List.not_mem_nil, or_false] at hc
          omega
        exact I1.fpOk le (I1.hok.fresh le)
      obtain ⟨l1, rv1, p1, _⟩ := I1.list qx; obtain ⟨l2, rv2, p2, _⟩ := I1.list qy
      refine call_zip_2 p1.isList p2.isList fun h' hz hTI hTO h1 h2 hsz hk => wpAny_pyIter_zip hz ?_
      exact ⟨s1.heap.objs.size + 4, _, _, _, H1, rfl, I1.kept (t' := s1.toks) hk, turn_zipQ (PySem.W.ktu_apart s1.heap.objs.size a b p1.lt p2.lt), ⟨hz, hTI, ⟨_, _, hTO⟩, h1, h2⟩, fr, qR⟩⟩
end DtZ
namespace DtZ
open PySem PySem.Spec PyProof.Rows L2
section
variable {prog : Program} {w : World} {A : Around} {E : Value → Shared → Prop} {s : Shared}
/-- a tuple's iterator has no more -/
theorem tup_end_hot {it t x1 : Addr} {i : Nat} {items : Array Value} {Q : Option Value → Shared → Prop} (hot : HotX.HotAt A x1 s.heap) (n1 : x1 ≠ it) (hit : IsTupIter s.heap it t i) (ht : IsTup s.heap t items) (hx : items[i]? = none)
    (hQ : ∀ h', Heap.ExtBut it s.heap h' → Q none { s with heap := h' }) : wpAny (model prog w) A (pyNext (.ref it)) Q E s := by
  obtain ⟨oi, hoi, hci, hdi⟩ := id hit; obtain ⟨ol, hol, _, nl, hdl⟩ := ht; obtain ⟨hh, o1, vs1, g1, d1, c1⟩ := hot
  unfold pyNext
  refine wpAny_bind (wpAny_attempt (wpAny_callSpecial?_slot (name := Str.ofString "__next__") hit.typeIs slot_tupleiter_next (wpAny_call_entry slot_tupleiter_next hit.typeIs entry_tupleiter_next ?_ (args_tupleiter_next _))))
  show wpAny _ _ (field (.ref it) 0 >>= _) _ _ s; refine wpAny_bind (wpAny_field hoi hdi (x := .ref t) rfl ?_)
  show wpAny _ _ (if (Value.ref t == Value.none) = true then _ else _) _ _ s; rw [if_neg (show ¬ ((Value.ref t == Value.none) = true) from Bool.false_ne_true)]
  show wpAny _ _ (field (.ref it) 1 >>= _) _ _ s; refine wpAny_bind (wpAny_field hoi hdi (x := .int i 0) rfl ?_)
  show wpAny _ _ (seqItems? (.ref t) >>= _) _ _ s; refine wpAny_bind (wpAny_seqItems hol hdl ?_); simp only [Int.toNat_natCast, hx]
  refine wpAny_bind (wpAny_rule (wpAny_bind (wpAny_setField hoi hdi (by simp) ?_))); show wpAny _ _ (newExc (.type "StopIteration") [] >>= _) _ _ _; refine wpAny_bind ?_
  simp only [newExc, newTuple]; refine wpAny_bind (wpAny_newObj_type ?_ (by size_fits)); refine wpAny_bind (m := firstArgMember _ _) (wpAny_of_eq (a := Value.none) (by first | rfl | (simp only [firstArgMember]; rfl)) ?_); refine wpAny_newObj_type ?_ (by size_fits)
  have k1 : (s.heap.update it (Obj.mapFields (·.setIfInBounds 0 Value.none))).get? x1 = some o1 := (Heap.get?_update_other _ _ (Ne.symm n1)).trans g1
  refine HotX.raiseNew_hot ⟨hh, o1, vs1, Heap.get?_push_of_some _ (Heap.get?_push_of_some _ k1), d1, c1⟩ (Nat.ne_of_lt (Heap.lt_size (Heap.get?_push_of_some _ k1))) (Heap.get?_push_size _ rfl) rfl (by first | (simp; done) | (simp; omega) | (simp only [Array.size]; decide)) ?_
  refine wpAny_bind (wpAny_isInstance (T := "StopIteration") (b := true) ⟨_, Heap.get?_update_self _ (Heap.get?_push_size _ rfl) rfl, rfl⟩ isSubtype_stop ?_)
  refine wpAny_pure (hQ _ (fun b o n e => ?_))
  have k2 : (s.heap.update it (Obj.mapFields (·.setIfInBounds 0 Value.none))).get? b = some o := (Heap.get?_update_other _ _ (Ne.symm n)).trans e
  rw [Heap.get?_update_other _ _ (Nat.ne_of_gt (Heap.lt_size (Heap.get?_push_of_some _ k2)))]
  exact Heap.get?_push_of_some _ (Heap.get?_push_of_some _ k2)
theorem tup_items_hot {t x1 : Addr} {items : Array Value} {Q : List Value → Shared → Prop} (hot : HotX.HotAt A x1 s.heap) (ht : IsTup s.heap t items)
    (hQ : ∀ h', Heap.ExtBut s.heap.objs.size s.heap h' → Q items.toList { s with heap := h' }) : wpAny (model prog w) A (unpackItems (.ref t) items.size none) Q E s := by
  have hlt : t ≠ s.heap.objs.size := by obtain ⟨o, ho, _⟩ := ht; exact Nat.ne_of_lt (Heap.lt_size ho)
  obtain ⟨hh, o1, vs1, g1, d1, c1⟩ := hot
  have n1 : x1 ≠ s.heap.objs.size := Nat.ne_of_lt (Heap.lt_size g1)
  unfold unpackItems; refine wpAny_bind ?_; unfold notIterableAtAll
  refine wpAny_bind (wpAny_specialOf ht.typeIs slot_tuple_iter.lookup (wpAny_pure ?_)); simp only [Bool.false_eq_true, if_false]
  refine wpAny_bind (wpAny_holding (iter_tuple ht (wpAny_bind (wpAny_holding (draw_tuple hlt items.size 0 _ _ ⟨_, Heap.get?_push_size _ rfl, rfl, rfl⟩ (ht.push _) (by omega) fun h₁ hit₁ hs₁ => ?_)))))
  have hall : List.take items.size (List.drop 0 items.toList) = items.toList := (congrArg _ List.drop_zero).trans (List.take_of_length_le (Nat.le_of_eq (Array.length_toList)))
  rw [hall, if_neg (by simp)]
  refine wpAny_bind (wpAny_holding (tup_end_hot (x1 := x1) ⟨hh, o1, vs1, hs₁.extBut _ _ n1 (Heap.get?_push_of_some _ g1), d1, c1⟩ n1 hit₁ ((ht.push _).extBut hs₁.extBut hlt) (by simp) fun h₂ he₂ => ?_))
  simp only [Option.isSome_none, Bool.false_eq_true, if_false]
  exact wpAny_pure (hQ h₂ fun b o hb e => he₂ b o hb (hs₁.extBut b o hb (Heap.get?_push_of_some _ e)))
theorem tup_asg_hot {env : Env} {elts : List Expr} {k : Nat} {pos : Pos} {t x1 : Addr} {items : Array Value} {Q : Unit → Shared → Prop} (hot : HotX.HotAt A x1 s.heap) (ht : IsTup s.heap t items)
    (hn : (assignEach elts env).length = items.size) (hstar : (assignEach elts env).findIdx? (·.1) = none)
    (h : ∀ h', Heap.ExtBut s.heap.objs.size s.heap h' → wpAny (model prog w) A (assignInOrder ((assignEach elts env).map (·.2)) items.toList) Q E { s with heap := h' }) :
    wpAny (model prog w) A (assign (.Tuple elts k pos) env (.ref t)) Q E s := by
  rw [assign_Tuple]; refine wpAny_bind (wpAny_standAt ?_); unfold unpack; rw [hn, hstar]
  exact wpAny_bind (wpAny_holding (tup_items_hot hot ht h))
end
section
variable {X : Cx}
theorem pg_tupQ {p : Addr × Obj} {es : List Expr} {k : Nat} {t : TGs} {n : Nat} {pos : Pos} (hB : HotB X p) (h : PGs X es t) (hn : (assignEach es X.env).length = n := by rfl) (hst : (assignEach es X.env).findIdx? (·.1) = none := by rfl) : PG X (.Tuple es k pos) (gTup X.K n t) :=
  ⟨fun pins s σ H v u Q I r hw => by
    obtain ⟨a, xs, rfl, hq, hl, hw⟩ := hw; cases r; obtain ⟨its, rv, ht, hz⟩ := I.tuple hq
    refine tup_asg_hot (hB.at I) ht (by simp [hn, ← hl, rv.length]) hst fun h' hx => ?_
    exact h.run pins _ σ H xs _ Q (I.kept (t' := s.toks) fun b o e => hx b o (Nat.ne_of_lt (Heap.lt_size e)) e) (by simpa using rv) hw⟩
end
end DtZ
namespace DtZ
open PySem PySem.Spec PyProof.Rows L2
section
variable {X : Cx}
theorem pe_lcQ {p : Addr × Obj} {elt tg iter : Expr} {ifs : List Expr} {scope : Scope} {own : List (Str × Nat)} {pos : Pos} {wi : TI} {g : TG} {tt : TT} {te : TE} (hN : X.N.Nodup) (h1p : L2H.Hot1 X.A p) (hpn : p ∈ X.pn) (hi : PIQ X p tg iter wi) (ok : BlkOk X.N X.env.scope scope own)
    (hg : ∀ (s : Shared) (H : Hp) (C : Addr) (cl : List (Str × Addr)) (fp : List Addr), HotB (X.blk s H scope (compEnvC scope cl C X.env) fp) p → PG (X.blk s H scope (compEnvC scope cl C X.env) fp) tg g) (ht : ∀ (s : Shared) (H : Hp) (C : Addr) (cl : List (Str × Addr)) (fp : List Addr), PTs (X.blk s H scope (compEnvC scope cl C X.env) fp) ifs tt)
    (he : ∀ (s : Shared) (H : Hp) (C : Addr) (cl : List (Str × Addr)) (fp : List Addr), PE (X.blk s H scope (compEnvC scope cl C X.env) fp) elt te) (hs : ∀ x, foldedSetIterable iter X.env x = pure x := by intro _; rfl) :
    PE X (.ListComp elt [⟨tg, iter, ifs, 0⟩] scope pos) (tLc wi g tt te (own.map (·.2))) := ⟨fun pins s σ H Q I h => by
  rw [eval_ListComp]
  have cellsOk : ∀ y ∈ scope.names, y.2 = .free → ∃ c, X.env.cells.lookup y.1 = some c := fun y hy e => (ok.free y hy e).elim (fun k => I.ok.has _ (.inl k)) fun k => I.ok.has _ (.inr k)
  refine wpAny_comprehension_free (use := none) rfl hs (closure_ok cellsOk) ok.kind (fun y hy e => by rw [ok.uniq y hy, e]) (thn (hi.run pins s σ H _ I h) fun xv sa hx => thn hx fun itv sb hb => ?_)
  obtain ⟨it, fp, tn, J, H2, rfl, I2, T, st2, f2, q⟩ := hb
  refine wpAny_newObj_type (newEnv_comp ?_) (by show 0 ≤ sizeLine; decide)
  obtain ⟨D, hD⟩ : ∃ D, sb.heap.objs.size = D := ⟨_, rfl⟩
  obtain ⟨W, ⟨m0, w0⟩, turn⟩ := q D (I2.hok.fresh (Nat.le_of_eq hD))
  obtain ⟨s3, hs3⟩ : ∃ s3 : Shared, ({ sb with heap := sb.heap.push { cls := .type "list", data := .seq ([] : List Value).toArray } } : Shared) = s3 := ⟨_, rfl⟩
  have eh : s3.heap = sb.heap.push { cls := .type "list", data := .seq ([] : List Value).toArray } := by rw [← hs3]
  have I3 : Inv X pins σ (upd H2 D (.lst [])) s3 := by
    rw [← hs3]
    exact I2.laid (t' := sb.toks) (fun b o e => Heap.get?_push_of_some _ e) (Nat.le_of_eq hD) ⟨Nat.zero_le _, [], 0, .nil, by rw [← hD]; exact Heap.get?_push_size _ rfl⟩
  have lt2 : ∀ b ∈ fp, b < sb.heap.objs.size := fun b hb => by
    obtain ⟨o, e, _⟩ := T.t.obj _ _ st2 b hb
    exact Heap.lt_size e
  have f3 : ∀ b ∈ fp, FpOk X pins (upd H2 D (.lst [])) b ∧ b < s3.heap.objs.size := fun b hb =>
    ⟨⟨by rw [upd_ne (by rw [← hD]; exact Nat.ne_of_lt (lt2 b hb))]; exact (f2 b hb).1, (f2 b hb).2⟩, by rw [eh, Heap.size_push]; exact Nat.lt_succ_of_lt (lt2 b hb)⟩
  have st3 : tn 0 s3.heap := T.t.keep _ _ _ st2 fun b _ o e => by rw [eh]; exact Heap.get?_push_of_some _ e
  have I4 := block_start I3 ok hN f3
  have pg := hg s3 (upd H2 D (.lst [])) s3.heap.objs.size (cellsFrom (s3.heap.objs.size + 1) scope.names (cloFrom X.env.cells scope.names [])) fp; have pt := ht s3 (upd H2 D (.lst [])) s3.heap.objs.size (cellsFrom (s3.heap.objs.size + 1) scope.names (cloFrom X.env.cells scope.names [])) fp
  have pe := he s3 (upd H2 D (.lst [])) s3.heap.objs.size (cellsFrom (s3.heap.objs.size + 1) scope.names (cloFrom X.env.cells scope.names [])) fp
  have nfp : ∀ b ∈ fp, (upd H2 D (.lst [])) b = none := fun b hb => (f3 b hb).1.1
  rw [hs3]
  show codeAny _ _ (.compStart (.ListComp elt [⟨tg, iter, ifs, 0⟩] scope pos) 0 (.ref it) (.ref sb.heap.objs.size) (compEnvC scope (cellsFrom (s3.heap.objs.size + 1) scope.names (cloFrom X.env.cells scope.names [])) s3.heap.objs.size X.env)) (compPost (model X.prog X.w) X.A X.xe none (EP X pins σ Q) (.ref sb.heap.objs.size) s3.heap.objs.size) _
  rw [hD]
  obtain ⟨H3, hH3⟩ : ∃ H3, upd H2 D (.lst []) = H3 := ⟨_, rfl⟩
  rw [hH3] at I3 w0 nfp f3 I4 pg pt pe
  obtain ⟨ce, hce⟩ : ∃ ce, compEnvC scope (cellsFrom (s3.heap.objs.size + 1) scope.names (cloFrom X.env.cells scope.names [])) s3.heap.objs.size X.env = ce := ⟨_, rfl⟩
  have cL : ce.locals = s3.heap.objs.size := by rw [← hce]; rfl
  rw [hce] at I4 pg pt pe ⊢
  obtain ⟨s4, hs4⟩ : ∃ s4 : Shared, ({ s3 with heap := pushCells (s3.heap.push { cls := .type "dict", data := .dict #[] }) scope.names } : Shared) = s4 := ⟨_, rfl⟩
  rw [hs4] at I4 ⊢
  have st4 : tn 0 s4.heap := T.t.keep _ _ _ st3 fun b _ o e => by rw [← hs4]; exact pushCells_keeps _ _ _ _ (Heap.get?_push_of_some _ e)
  have fpB : ∀ {σ' : L2.St} {H' : Hp} {s' : Shared}, Inv (X.blk s3 H3 scope ce fp) [] σ' H' s' → (∀ b ∈ fp, H' b = none) → ∀ b ∈ fp, FpOk (X.blk s3 H3 scope ce fp) [] H' b := fun {σ' H' s'} J' hn b hb =>
    ⟨hn b hb, (J'.ok.exf b hb).1, J'.ok.exfs b hb, .inl hb, fun x c e => (J'.ok.exf b hb).2 x c e, fun p hp => absurd (show p ∈ ([] : List (Addr × Obj)) ++ [] from hp) (by simp)⟩
  have P3 := I3.pin p (List.mem_append_left _ hpn)
  have npf : ∀ b ∈ fp, p.1 ≠ b := fun b hb => (f3 b hb).1.2.2.2.2.2 p (List.mem_append_left _ hpn)
  have hotB : HotB (X.blk s3 H3 scope ce fp) p := ⟨h1p, P3.1, P3.2.1, fun hm => (List.mem_cons.mp (I3.stkSub p.1 hm)).elim P3.2.2.1 P3.2.2.2.1, fun hm => npf p.1 hm rfl⟩
  have loop : codeAny (model X.prog X.w) X.A (.compLoop (.ListComp elt [⟨tg, iter, ifs, 0⟩] scope pos) 0 (.ref it) (.ref D) ce) (compPost (model X.prog X.w) X.A X.xe none (EP X pins σ Q) (.ref D) s3.heap.objs.size) s4 := by
    refine compLoop_any (fun n s' => ∃ i H', Inv (X.blk s3 H3 scope ce fp) [] (wipe σ (own.map (·.2))) H' s' ∧ tn i s'.heap ∧ (∀ b ∈ fp, H' b = none) ∧ W i n H') ?_ m0 ⟨0, H3, I4, st4, nfp, w0⟩
    rintro n s5 ⟨i, H5, I5, st5, n5, w5⟩
    rcases turn i n H5 w5 with ⟨stop, qq⟩ | ⟨go, Nx, hNx, step⟩
    · refine thnF (T.done (X.blk s3 H3 scope ce fp) rfl rfl rfl hotB npf i [] s5 _ H5 (fun _ _ => False) I5 (fpB I5 n5) st5 stop) fun r s6 ⟨hr, I6⟩ => ?_
      subst hr
      have I7 : Inv X pins σ H5 s6 := I3.call' (ch := fp) I6.os I6.base I6.hok I6.bare fun b hb => ⟨(f3 b hb).1.2.2.2.1, (f3 b hb).1.2.1, (f3 b hb).1.2.2.2.2.1, (f3 b hb).1.2.2.2.2.2⟩
      have nC : H5 s3.heap.objs.size = none := by
        have z : H5 ce.locals = none := I6.free
        rw [cL] at z
        exact z
      obtain ⟨m, hn, _⟩ := I6.loc
      have hn : s6.heap.Ns ce.locals m := hn
      rw [cL] at hn
      obtain ⟨f0, f1, fz, fw, fv, fu⟩ := I3.fpOk (Nat.le_refl _) nC
      exact ⟨m, hn, fun h'' sb' => ⟨.ref D, H5, I7.turned (t' := s6.toks) (fun b o hb e => (sb'.2 b hb).trans e) f0 f1 fw fv fu, rfl, qq⟩⟩
    · refine thnF (T.item (X.blk s3 H3 scope ce fp) rfl rfl rfl hotB npf i [] s5 _ H5 (fun _ _ => False) I5 (fpB I5 n5) st5 go) fun r s6 ⟨u, hr, h6⟩ => ?_
      subst hr
      refine thnF h6 fun _ s7 ⟨x, H7, I7, r7, y7, st7, n7⟩ => ?_
      refine thnF ((pg hotB).run _ s7 _ H7 x u _ (I7.pinned (fpB I7 n7) (T.t.obj _ _ st7)) r7 (step x H7 y7)) fun _ s8 ⟨σ8, H8, I8, hw8, q8⟩ => ?_
      refine thnF (pt.run _ s8 σ8 H8 _ I8 q8) fun b s9 ⟨H9, I9, q9⟩ => ?_
      have turnEnd : ∀ {s' : Shared} {H' : Hp}, Inv (X.blk s3 H3 scope ce fp) ([] ++ pinsAt fp s7.heap) σ8 H' s' → Nx H' → ∃ m, m < n ∧ ∃ i H', Inv (X.blk s3 H3 scope ce fp) [] (wipe σ (own.map (·.2))) H' s' ∧ tn i s'.heap ∧ (∀ b ∈ fp, H' b = none) ∧ W i m H' := fun {s' H'} J' nx => by
        obtain ⟨m', hm, w'⟩ := hNx H' nx
        have pinned : ∀ b ∈ fp, ∀ o, s7.heap.get? b = some o → s'.heap.get? b = some o ∧ H' b = none := fun b hb o e => ⟨(J'.pin (b, o) (List.mem_append_right _ (List.mem_append_right _ (mem_pinsAt hb e)))).1, (J'.pin (b, o) (List.mem_append_right _ (List.mem_append_right _ (mem_pinsAt hb e)))).2.1⟩
        refine ⟨m', hm, i + 1, H', (J'.unpinned (pins := [])).weak (by rw [← hw8, wipe_length]) (fun j v e => ?_), T.t.keep _ _ _ st7 fun b hb o e => (pinned b hb o e).1, fun b hb => ?_, w'⟩
        · rw [← hw8] at e
          exact (wipe_some e).1
        · obtain ⟨o, e, _⟩ := T.t.obj _ _ st7 b hb
          exact (pinned b hb o e).2
      cases b with
      | false =>
        rw [if_neg Bool.false_ne_true] at q9 ⊢
        exact turnEnd I9 q9
      | true =>
        rw [if_pos rfl] at q9 ⊢
        refine thnF (pe.run _ s9 σ8 H9 _ I9 q9) fun z s10 ⟨yv, H10, I10, r10, acc, hD10, hz10, nx⟩ => ?_
        exact app_ok (X := X.blk s3 H3 scope ce fp) I10 hD10 hz10 r10 fun s11 I11 => turnEnd I11 nx
  exact codeAny_compStart_list loop (T.t.self X.A 0 _ _ _ st4 loop)⟩
end
end DtZ
namespace Dt
open PySem PySem.Spec PyProof.Rows L2
variable [TabG]
section TC
variable [TabC]
/-- the object's fields -/
abbrev tfs (vr : V) (q : Addr) : List (Str × V) := [("rule", vr), ("states", .ref q)]
/-- v is an object of the class at C with a rule and a list of states at q -/
def TaskP (K : PySem.W.Frag) (C q : Addr) (r : PyData) (ss : List PyData) : Hp → V → Prop := fun G v => ∃ (p dx : Addr) (vr : V) (vs : List V), v = .ref p ∧ G p = some (.ins C dx (tfs vr q)) ∧ Rp K G vr r ∧ G q = some (.lst vs) ∧ RpA K G vs ss
theorem taskP_mon {K : PySem.W.Frag} {C q : Addr} {r : PyData} {ss : List PyData} : Mon (TaskP K C q r ss) := fun G1 G2 v s h => by
  obtain ⟨p, dx, vr, vs, h1, h2, h3, h4, h5⟩ := h
  exact ⟨p, dx, vr, vs, h1, s _ _ h2, h3.mono s, s _ _ h4, h5.mono s⟩
/-- what the class is asked -/
structure TaskC (K : PySem.W.Frag) (C : Addr) : Prop where
  cls : Cls K C
  nr : NoAttr K C "rule"
  ns : NoAttr K C "states"
  most : ∃ u, Con K C "MOST" (.int 80) u
/-- slot i holds such an object -/
def dStates (K : PySem.W.Frag) (C : Addr) (i : Nat) : DE := fun ρ f P => ∃ q r ss, ρ[i]? = some (SV.g (TaskP K C q r ss)) ∧ P (.list ss) f
def dRule (K : PySem.W.Frag) (C : Addr) (i : Nat) : DE := fun ρ f P => ∃ q r ss, ρ[i]? = some (SV.g (TaskP K C q r ss)) ∧ P r f
def dMost (K : PySem.W.Frag) (C : Addr) (i : Nat) : DE := fun ρ f P => (∃ q r ss, ρ[i]? = some (SV.g (TaskP K C q r ss))) ∧ P (.int 80) f
section
variable {X : Cx} {mb : Option Addr} {js : Nat} {pn : Option V} {C : Addr} {px pos : Pos} {x : Str}
theorem xe_states (i : Nat) (c : TaskC X.K C) (hN : X.N[i]? = some x := by rfl) (hv : Vis X.env.scope x := by first | exact Or.inl rfl | exact Or.inr (Or.inl rfl) | exact Or.inr (Or.inr rfl)) (hd : (x == ("__debug__" : Str)) = false := by decide) (hcd : (x == ("__classdict__" : Str)) = false := by decide)
    (hb : attributeBase (.Name x px) "states" X.env (eval (.Name x px) X.env) = eval (.Name x px) X.env := by rfl) : XE X mb js pn (.Attribute (.Name x px) "states" pos) (tFld X.K (tVar i) "states") (dStates X.K C i) :=
  ⟨pe_fld (pe_var hN hv hd hcd) hb, fun G H f σ ρ P S q Q k => by
    obtain ⟨a, r, ss, hi, q⟩ := q
    obtain ⟨_, v, hs, p, dx, vr, vs, rfl, h2, h3, h4, h5⟩ := S.gf i _ hi
    exact ⟨_, hs, p, C, dx, _, .ref a, rfl, S.gh _ _ h2, c.cls, c.ns, rfl, k _ _ f G H (Go.refl S.gh) S.bi (.lst h4 h5) q⟩⟩
theorem xe_rule (i : Nat) (c : TaskC X.K C) (hN : X.N[i]? = some x := by rfl) (hv : Vis X.env.scope x := by first | exact Or.inl rfl | exact Or.inr (Or.inl rfl) | exact Or.inr (Or.inr rfl)) (hd : (x == ("__debug__" : Str)) = false := by decide) (hcd : (x == ("__classdict__" : Str)) = false := by decide)
    (hb : attributeBase (.Name x px) "rule" X.env (eval (.Name x px) X.env) = eval (.Name x px) X.env := by rfl) : XE X mb js pn (.Attribute (.Name x px) "rule" pos) (tFld X.K (tVar i) "rule") (dRule X.K C i) :=
  ⟨pe_fld (pe_var hN hv hd hcd) hb, fun G H f σ ρ P S q Q k => by
    obtain ⟨a, r, ss, hi, q⟩ := q
    obtain ⟨_, v, hs, p, dx, vr, vs, rfl, h2, h3, h4, h5⟩ := S.gf i _ hi
    exact ⟨_, hs, p, C, dx, _, vr, rfl, S.gh _ _ h2, c.cls, c.nr, rfl, k _ _ f G H (Go.refl S.gh) S.bi h3 q⟩⟩
theorem xe_most (i : Nat) (c : TaskC X.K C) (hN : X.N[i]? = some x := by rfl) (hv : Vis X.env.scope x := by first | exact Or.inl rfl | exact Or.inr (Or.inl rfl) | exact Or.inr (Or.inr rfl)) (hd : (x == ("__debug__" : Str)) = false := by decide) (hcd : (x == ("__classdict__" : Str)) = false := by decide)
    (hb : attributeBase (.Name x px) "MOST" X.env (eval (.Name x px) X.env) = eval (.Name x px) X.env := by rfl) : XE X mb js pn (.Attribute (.Name x px) "MOST" pos) (tCon X.K (tVar i) "MOST") (dMost X.K C i) :=
  ⟨pe_con (pe_var hN hv hd hcd) hb, fun G H f σ ρ P S q Q k => by
    obtain ⟨⟨a, r, ss, hi⟩, q⟩ := q
    obtain ⟨_, v, hs, p, dx, vr, vs, rfl, h2, h3, h4, h5⟩ := S.gf i _ hi
    obtain ⟨u, hu⟩ := c.most
    exact ⟨_, hs, p, C, dx, _, .int 80, u, rfl, S.gh _ _ h2, c.cls, hu, rfl, k _ _ f G H (Go.refl S.gh) S.bi (.int 80) q⟩⟩
end
/-- what a pure method promises -/
def spO (K : PySem.W.Frag) (C : Addr) (w : PyData → List PyData → RCD) : Sp := fun vs H Q _ => ∃ (G : Hp) (q : Addr) (r : PyData) (ss : List PyData) (v0 : V) (us : List V) (ds : List PyData) (P : PyData → Prop), vs = v0 :: us ∧ Same G H ∧ TaskP K C q r ss G v0 ∧ RpA K G us ds ∧ w r ss ds P ∧
  ∀ v d G' H', Go none G H G' H' → Rp K G' v d → P d → Q v H'
end TC
section
variable {P : Program} {w : World} {K : PySem.W.Frag} {mg : Str → Option Value} {base : Heap} {x qual y : Str} {st : Stmt} {f C : Addr} {fd : FuncData} {N ps : List Str} {k : Nat}
theorem startO {G H : Hp} {v : V} {vs : List V} {ds : List PyData} {Pp : Hp → V → Prop} (gh : Same G H) (hm : Mon Pp) (hp : Pp G v) (r : RpA K G vs ds) (hl : ds.length ≤ N.length) : Stt K none 1000000 none G H 0 (L2.start (y :: N) (v :: vs)) (.g Pp :: rho0 N ds) := by
  have S0 := start_stt (N := N) gh r hl
  have es0 : L2.start (y :: N) (v :: vs) = some v :: L2.start N vs := by
    unfold L2.start
    simp
  rw [es0]
  have no : ∀ (i : Nat) (es : List PyData), (SV.g Pp :: rho0 N ds)[i]? = some (SV.l es) → (rho0 N ds)[i - 1]? = some (SV.l es) ∧ 0 < i := fun i es e => by
    cases i with
    | zero => cases e
    | succ i => exact ⟨e, Nat.succ_pos _⟩
  exact { gh := gh, gb := fun _ e => (by cases e), bi := Bag.no, bj := fun _ e => (by cases e), pj := fun _ e => (by cases e), ln := by rw [List.length_cons, List.length_cons, S0.ln]
          ft := fun i d e => by
            cases i with
            | zero => cases e
            | succ i => exact S0.ft i d e
          ow := fun i es e => by
            cases i with
            | zero => cases e
            | succ i => exact S0.ow i es e
          sp := fun i j es fs p e1 e2 h1 h2 => by
            cases i with
            | zero => cases e1
            | succ i => cases j with
              | zero => cases e2
              | succ j => rw [S0.sp i j es fs p e1 e2 h1 h2]
          gf := fun i P e => by
            cases i with
            | zero =>
              cases e
              exact ⟨hm, v, rfl, hp⟩
            | succ i => exact S0.gf i P e
          tk := tabs_nil }
theorem rho0_noL {N : List Str} {ds : List PyData} {i : Nat} {es : List PyData} (e : (rho0 N ds)[i]? = some (SV.l es)) : False := by
  unfold rho0 at e
  rw [List.getElem?_append] at e
  split at e
  · rw [List.getElem?_map] at e
    cases q : ds[i]? with
    | none =>
      rw [q] at e
      cases e
    | some d =>
      rw [q] at e
      cases e
  · rw [List.getElem?_replicate] at e
    split at e <;> cases e
/-- a pure method (or a property's getter) -/
theorem okO_mk {wd : PyData → List PyData → RCD} (F : FunD K x qual (defArgs st) (defBody st) (defScope st) [] [] f fd) (sc : FnScope (y :: N) (y :: ps) (defScope st)) (hw : ∀ r ss ds P, wd r ss ds P → ds.length = ps.length) (hN : ps.length ≤ N.length)
    (body : ∀ (cdv : Value) (A : Around) (outer : List Env) (s : Shared) (H : Hp) (E : XK), Room k (A.deeper (envOfC qual (defScope st) s.heap.objs.size f cdv)) →
      ∃ ts ds, XSs (cxOf CX0 P w K mg base (y :: N) qual (defScope st) f cdv A outer s H E).nox none 1000000 none (defBody st) ts ds ∧ ∀ q r ss args Q, wd r ss args Q → ds { nx := fun _ _ => Q .none, rt := fun d _ => Q d, rn := fun es _ => Q (.list es) } (.g (TaskP K C q r ss) :: rho0 N args) 0) :
    FnOk P w K mg base CX0 (k + 1) f fd (y :: ps) (spO K C wd) := by
  refine F.ok sc (fun vs H Q E h => ?_) (fun cdv A outer s H vs Q E hr h => ?_)
  · obtain ⟨G, q, r, ss, v0, us, ds, P', rfl, gh, tp, rp, hq, _⟩ := h
    rw [List.length_cons, List.length_cons, rp.len, hw r ss ds P' hq]
  · obtain ⟨G, q, r, ss, v0, us, ds, P', rfl, gh, tp, rp, hq, kk⟩ := h
    obtain ⟨ts, dd, X1, rd⟩ := body cdv A outer s H E hr
    have hl := hw r ss ds P' hq
    refine ⟨ts, PSs.nox X1.pe, X1.sm G G H _ _ (.g (TaskP K C q r ss) :: rho0 N ds) 0 (L2.start (y :: N) (v0 :: us)) H ⟨G, startO gh taskP_mon tp rp (by omega), Go.refl gh, Same.refl G, fun i es p e => ?_⟩ (rd q r ss ds P' hq) ?_⟩
    · cases i with
      | zero => cases e
      | succ i => exact (rho0_noL e).elim
    · refine ⟨fun ρ f σ H' a q' => ?_, fun v d f G' H' g b r' q' => kk v d G' H' g r' q', fun p us es f G' H' g b h0 gp hp r' q' => kk (.ref p) (.list es) (upd G' p (.lst us)) H' (g.add h0 gp hp) (.lst upd_same (r'.mono (same_new gp))) q', fun _ _ _ _ _ z => z.elim, fun _ _ _ _ _ z => z.elim, Xt.no⟩
      obtain ⟨G', S', g', _, _⟩ := a
      exact kk .non .none G' H' g' .non q'
end
section TC
variable [TabC]
end TC
end Dt
namespace Dt
open PySem PySem.Spec PyProof.Rows L2
variable [TabG]
section TC
variable [TabC]
/-- pure growth -/
def noG : Hp := fun _ => none
def Pu (H H' : Hp) : Prop := Go none noG H noG H'
theorem Pu.of {G H G' H' : Hp} (g : Go none G H G' H') : Pu H H' := ⟨Same.refl _, fun _ _ e => (by cases e), g.hh, g.hd, fun _ _ e => (by cases e), g.tb⟩
theorem Pu.refl {H : Hp} : Pu H H := Go.refl fun _ _ e => (by cases e)
theorem Pu.trans {H H1 H2 : Hp} (a : Pu H H1) (b : Pu H1 H2) : Pu H H2 := Go.trans a b
/-- a growth, for a ghost that knows no table -/
theorem Pu.go {mb : Option Addr} {G H H' : Hp} (p : Pu H H') (gh : Same G H) (gn : ∀ a o, G a = some o → NT o) : Go mb G H G H' := ⟨Same.refl G, fun a o e => p.hh a o (fun z => nomatch z) (gn a o e) (gh a o e), fun a o _ t e => p.hh a o (fun z => nomatch z) t e, p.hd, fun _ _ e => .inl e, p.tb⟩
section
variable {X : Cx} {p : Addr × Obj} {D : Addr}
/-- isinstance(e, c), e the pinned error -/
theorem call_isP (hp : p ∈ X.pn) (C : ExcC X.K D) (hz : Zc (.ref D) none p.2) (hf : ∃ vs, p.2.data = .fields vs) : CallR X (.builtin "isinstance") (rIsE X.K D p.1) := by
  intro pins s σ H xs us Q I r h
  obtain ⟨c, cv, b, rfl, hcv, e, q⟩ := h
  cases r with
  | cons rx rr => cases rr with
    | cons rt rr =>
      cases rr
      cases rx
      have ec := hcv _ rt
      subst ec
      obtain ⟨hget, _⟩ := I.pin p (List.mem_append_left _ hp)
      obtain ⟨vs, hv⟩ := hf
      have J : PySem.W.InstAt s.heap p.1 p.2 D none := by
        obtain ⟨a, oc, od, oda, osl⟩ := p
        obtain ⟨h1, h2⟩ := hz
        dsimp only at h1 h2 hv
        subst h1 h2 hv
        exact ⟨hget, rfl, rfl, trivial⟩
      exact PySem.W.kia_one (PySem.W.handS_kitx_exc C.hg C.hk C.hs C.hd C.ha C.hn C.ht C.hm) I.kIn J e (fun z => nomatch z) fun tk => ⟨.bl b, H, I.kept (t' := tk) fun _ _ z => z, rfl, q⟩
end
def isV (a : Addr) : Hp → V → Prop := fun _ v => v = .ref a
theorem isV_mon {a : Addr} : Mon (isV a) := fun _ _ _ _ h => h
def dIsE (a : Addr) (i : Nat) (b : Bool) : DE := fun ρ f P => ρ[i]? = some (SV.g (isV a)) ∧ P (.bool b) f
def dJoin (a : Str) (dl : DE) : DE := fun ρ f P => dl ρ f fun y f2 => match y with
  | .list es => ∃ ys : List Str, es = ys.map PyData.str ∧ (ys.map (·.length)).sum + ys.length * a.length ≤ 16777216 ∧ P (.str (Txt.join a ys)) f2
  | _ => False
def iZpQ (da : DA) : DI := fun ρ f P => da ρ f fun ds f1 => match ds with
  | [.list xs, .list ys] => xs.length = ys.length ∧ P (zipD xs ys) f1
  | _ => False
section
variable {X : Cx} {mb : Option Addr} {js : Nat} {pn : Option V} {p : Addr × Obj} {D C : Addr} {x y : Str} {px py pf pos apos : Pos} {b : Bool}
theorem xe_isE (i : Nat) (hp : p ∈ X.pn) (c : ExcC X.K D) (hz : Zc (.ref D) none p.2) (hf : ∃ vs, p.2.data = .fields vs) (hC : X.mg y = some (.ref C)) (hb : PySem.W.kitOne X.K (.ref D) (.ref C) = some b) (hgC : Gl X y) (hg : Gl X "isinstance") (hm : X.mg "isinstance" = none)
    (hN : X.N[i]? = some x := by rfl) (hv : Vis X.env.scope x := by first | exact Or.inl rfl | exact Or.inr (Or.inl rfl) | exact Or.inr (Or.inr rfl)) (hd : (x == ("__debug__" : Str)) = false := by decide) (hcd : (x == ("__classdict__" : Str)) = false := by decide) (hdy : (y == ("__debug__" : Str)) = false := by decide)
    (he : starEach [.Name x px, .Name y py] X.env = (false, eval (.Name x px) X.env) :: starEach [.Name y py] X.env := by rfl) (he2 : starEach [.Name y py] X.env = (false, eval (.Name y py) X.env) :: starEach [] X.env := by rfl) (hpl : (backTo pos (starEach [.Name y py] X.env)).any (·.1) = false := by rfl) :
    XE X mb js pn (.Call (.Name "isinstance" pf) [.Name x px, .Name y py] [] pos) (tCB (rIsE X.K D p.1) (tCons (tVar i) (tCons (tC (.ref C)) tNil))) (dIsE p.1 i b) :=
  ⟨pe_callB (call_isP hp c hz hf) hg hm (by decide +kernel) (pa_cons (pe_var hN hv hd hcd) (pa_cons (pe_glob (v := .ref C) hgC hC rfl hdy) pa_nil he2) he) (by decide) (by decide) he hpl, fun G H f σ ρ P S q Q k => by
    obtain ⟨hi, q⟩ := q
    obtain ⟨_, v, hs, hvv⟩ := S.gf i _ hi
    have hvv : v = .ref p.1 := hvv
    subst hvv
    exact ⟨_, hs, .ref C, .ref C, b, rfl, fun u r => r, hb, k _ _ f G H (Go.refl S.gh) S.bi (.bl b) q⟩⟩
/-- a tuple of names, the error handled -/
theorem xg_tupQ {es : List Expr} {is : List Nat} {k : Nat} (hB : DtZ.HotB X p) (h : PGs X es (gNs is)) (hn : (assignEach es X.env).length = is.length := by rfl) (hst : (assignEach es X.env).findIdx? (·.1) = none := by rfl) : PG X (.Tuple es k pos) (tgG X.K (.t is)) := DtZ.pg_tupQ hB h hn hst
theorem xe_join {a : Str} {j : Nat} {po : Pos} {e : Expr} {te : TE} {de : DE} (he : XE X mb js pn e te de) (hs : starEach [e] X.env = [(false, eval e X.env)] := by rfl) (hbase : attributeBase (.Constant (.str a) j po) "join" X.env (eval (.Constant (.str a) j po) X.env) = eval (.Constant (.str a) j po) X.env := by rfl) (hline : (apos.endLine == pos.line) = true := by rfl) :
    XE X mb js pn (.Call (.Attribute (.Constant (.str a) j po) "join" apos) [e] [] pos) (tM1 (fun x xs H Q => ∃ a p, ∃ ys : List Str, x = .str a ∧ xs = [.ref p] ∧ (SqL X.K H p (ys.map V.str) ∨ SqT X.K H p (ys.map V.str)) ∧ (ys.map (·.length)).sum + ys.length * a.length ≤ 16777216 ∧ Q (.str (Txt.join a ys)) H) (tC (.str a)) te) (dJoin a de) :=
  ⟨pe_join pe_str he.pe hs hbase hline, fun G H f σ ρ P S q Q k => ⟨⟨a, rfl⟩, he.sm G H f σ ρ _ S q _ fun u e2 f2 G2 H2 g2 b2 r2 q2 => by
    cases r2 with
    | lst h1 h2 =>
      obtain ⟨ys, rfl, hz, q3⟩ := q2
      have ev := h2.strs
      subst ev
      exact ⟨a, _, ys, rfl, rfl, .inl (SqL.of (g2.gh _ _ h1)), hz, k _ _ f2 G2 H2 g2 b2 (.str _) q3⟩
    | _ => exact q2.elim⟩⟩
theorem itd_zipQ {K : PySem.W.Frag} {a b : Addr} {xs ys : List V} {ds es : List PyData} {G1 : Hp} (r1 : RpA K G1 xs ds) (r2 : RpA K G1 ys es) (ha : G1 a = some (.lst xs)) (hb : G1 b = some (.lst ys)) (hl : ds.length = es.length) : Itd K (DtZ.ItzQ K a b) G1 (zipD ds es) := by
  have it : Itd K (Itz K a b) G1 (zipD ds es) := itd_zip (walk_zip rfl) (fun H' s => ⟨SqL.of (s _ _ ha), SqL.of (s _ _ hb)⟩) r1 r2
  refine ⟨it.go, fun H' s => ⟨xs, ys, SqL.of (s _ _ ha), SqL.of (s _ _ hb), ?_⟩, it.yl⟩
  rw [zipD_len, r1.len]
  omega
theorem sim_zipQ {K : PySem.W.Frag} {n : Nat} {ta : TA} {da : DA} (ha : SimA K mb js pn n ta da) : SimI K mb js pn (DtZ.iZipQ K ta) (iZpQ da) := fun G H f σ ρ P S q R k => ha G H f σ ρ _ S q _ fun vs ds f1 G1 H1 l1 g1 b1 r1 q1 => by
  unfold iZpQ at q
  split at q1
  · cases r1 with
    | cons r1 r2 => cases r2 with
      | cons r2 r3 =>
        cases r3
        cases r1 with
        | lst h1 h2 => cases r2 with
          | lst h3 h4 => exact ⟨_, _, _, _, rfl, SqL.of (g1.gh _ _ h1), SqL.of (g1.gh _ _ h3), k _ _ f1 G1 H1 g1 b1 (itd_zipQ h2 h4 h1 h3 q1.1) q1.2⟩
  · exact q1.elim
theorem xn_lcQ {e1 e2 elt : Expr} {ifs : List Expr} {scope : Scope} {own : List (Str × Nat)} {ps ps2 : Pos} {elts : List Expr} {kk n : Nat} {tpos : Pos} {ta : TA} {da : DA} {tg : Tg} {dt : DT} {de : DE} (h1p : L2H.Hot1 X.A p) (hpn : p ∈ X.pn) (hN : X.N.Nodup) (ha : XA X mb js pn [e1, e2] n ta da) (hgz : Gl X "zip") (hmz : X.mg "zip" = none) (ok : BlkOk X.N X.env.scope scope own)
    (hg : ∀ (s : Shared) (H : Hp) (C : Addr) (cl : List (Str × Addr)) (fp : List Addr), DtZ.HotB (X.blk s H scope (compEnvC scope cl C X.env) fp) p → PG (X.blk s H scope (compEnvC scope cl C X.env) fp) (.Tuple elts kk tpos) (tgG X.K tg))
    (ht : ∀ (s : Shared) (H : Hp) (C : Addr) (cl : List (Str × Addr)) (fp : List Addr), ∃ tt, XTs (X.blk s H scope (compEnvC scope cl C X.env) fp) mb js pn ifs tt dt)
    (he : ∀ (s : Shared) (H : Hp) (C : Addr) (cl : List (Str × Addr)) (fp : List Addr), ∃ te, XE (X.blk s H scope (compEnvC scope cl C X.env) fp) mb js pn elt te de)
    (hj : ∀ i ∈ own.map (·.2), i ≠ js := by decide) (hsl : ∀ i ∈ tg.sl, i ∈ own.map (·.2) := by decide) (hs : ∀ x, foldedSetIterable (.Call (.Name "zip" pf) [e1, e2] [] ps) X.env x = pure x := by intro _; rfl)
    (hs1 : starEach [e1, e2] X.env = (false, eval e1 X.env) :: starEach [e2] X.env := by rfl) (hpl : (backTo ps (starEach [e2] X.env)).any (·.1) = false := by rfl) :
    XN X mb js pn (.ListComp elt [⟨.Tuple elts kk tpos, .Call (.Name "zip" pf) [e1, e2] [] ps, ifs, 0⟩] scope ps2) (tLc (DtZ.iZipQ X.K ta) (tgG X.K tg) (ttOf X.K mb js pn dt) (teOf X.K mb js pn de) (own.map (·.2))) (dLc (iZpQ da) tg dt de (own.map (·.2))) :=
  ⟨DtZ.pe_lcQ hN h1p hpn (DtZ.pi_zipQ hgz hmz ha.pe hs1 hpl) ok hg (fun s H C cl fp => XTs.can (ht s H C cl fp)) (fun s H C cl fp => XE.can (he s H C cl fp)) hs, lc_sim (sim_zipQ ha.sm) sim_ttOf sim_teOf hj hsl⟩
end
end TC
end Dt
namespace Dt
open PySem PySem.Spec PyProof.Rows L2
variable [TabG]
/-- called with the error p, an instance of D: the text that ew tells -/
def ErrFn (P : Program) (w : World) (K : PySem.W.Frag) (mg : Str → Option Value) (base : Heap) (k : Nat) (f : Addr) (ew : Addr → Str → Prop) : Prop := ∀ (A : Around) (outer : List Env) (s : Shared) (H : Hp) (p : Addr × Obj) (D : Addr) (wd : Str) (Q : VK) (E : XK), L2H.RoomH k A → L2H.Hot1 A p → L2H.PinOk outer H s p →
  Env0 P w K mg base A outer s H → Zc (.ref D) none p.2 → (∃ vs, p.2.data = .fields vs) → ew D wd → (∀ H', Same H H' → Q (.str wd) H') → codeAny (model P w) A (.call (.ref f) ⟨[.ref p.1], []⟩) (CR CX0 outer P w H s Q E) s
section
variable {P : Program} {w : World} {K : PySem.W.Frag} {mg : Str → Option Value} {base : Heap} {x y : Str} {st : Stmt} {f : Addr} {fd : FuncData} {N : List Str} {k : Nat}
theorem errFn_mk {ew : Addr → Str → Prop} (F : FunD K x x (defArgs st) (defBody st) (defScope st) [] [] f fd) (sc : FnScope (y :: N) [y] (defScope st)) (hb : Binds K fd [y] [])
    (body : ∀ (cdv : Value) (A : Around) (outer : List Env) (s : Shared) (H : Hp) (E : XK) (p : Addr × Obj) (D : Addr) (wd : Str), L2H.Hot1 A p → Zc (.ref D) none p.2 → (∃ vs, p.2.data = .fields vs) → ew D wd →
      ∃ ts ds, XSs (L2H.cxH CX0 P w K mg base (y :: N) x (defScope st) f cdv A outer s H E p) none 1000000 none (defBody st) ts ds ∧ ds { nx := fun _ _ => False, rt := fun d _ => d = .str wd } (.g (isV p.1) :: rho0 N []) 0) :
    ErrFn P w K mg base (k + 1) f ew := by
  intro A outer s H p D wd Q E hr hot hpin e0 hz hf hw kk
  obtain ⟨oc, od, dV, kV, doc, pm, an, cdv, ct, osl, rfl, lk, hcd, _, _⟩ := F.ex
  obtain ⟨ts, ds, X1, rd⟩ := body cdv A outer s H E p D wd hot hz hf hw
  have KX : K.In s.heap := e0.mod.kin.keeps fun b o e => (e0.bs b o e).1
  have lim : s.heap.NoLimit := e0.mod.nolimit.keeps fun b o e => (e0.bs b o e).1
  have hk : ∀ z ∈ [y].zip [Value.ref p.1], (defScope st).names.lookup z.1 = some .local ∨ ((defScope st).names.lookup z.1 = some .cell ∧ ((cellsFrom (s.heap.objs.size + 1) (defScope st).names []).lookup z.1).isSome = true) := fun z hz => by
    rcases sc.par z.1 (List.of_mem_zip hz).1 with q | q
    · exact .inl q
    · exact .inr ⟨q, PySem.W.cellsFrom_some _ _ _ (.inl q)⟩
  have bind := hb s [.ref p.1] KX rfl
  refine codeAny_call_function hr.depth (KX _ _ lk) rfl sc.co sc.gen rfl (PySem.W.codeRec_of KX hcd) (bind _ _ _ _ (wpAny_newFunctionEnv_cells sc.kind hk fun env he s1 x1 => ?_))
  subst he
  refine ⟨lim.keeps x1.toInCall.keep, codeAny_func ?_⟩
  have I : Inv (L2H.cxH CX0 P w K mg base (y :: N) x (defScope st) f cdv A outer s H E p) [] (L2.start (y :: N) [V.ref p.1]) H s1 := L2H.inv_startH (vs := [V.ref p.1]) (us := [.ref p.1]) sc hpin e0 rfl (.cons rfl .nil) x1
  have gh : Same H H := Same.refl H
  have S0 := startO (K := K) (N := N) (y := y) (Pp := isV p.1) (v := V.ref p.1) gh isV_mon rfl RpA.nil (Nat.zero_le _)
  have q : ts { nx := fun _ H' => Q .non H', rt := Q } (L2.start (y :: N) [V.ref p.1]) H := by
    refine X1.sm H H H _ _ _ 0 _ H ⟨H, S0, Go.refl gh, Same.refl _, fun i ds q e => ?_⟩ rd ?_
    · cases i with
      | zero => cases e
      | succ i => exact (rho0_noL e).elim
    · refine ⟨fun _ _ _ _ _ z => z.elim, fun v d f' G' H' g b r z => ?_, fun _ _ _ _ _ _ _ _ _ _ _ _ z => z.elim, fun _ _ _ _ _ z => z.elim, fun _ _ _ _ _ z => z.elim, Xt.no⟩
      have z : d = .str wd := z
      subst z
      cases r
      exact kk H' (g.gg.trans g.gh)
  refine wpAny_mono (X1.pe.run [] s1 _ H _ I q) (fun fl s' hs => ?_) fun e s' hs => hs
  cases fl with
  | ret u =>
    obtain ⟨v, σ', H', J, rv, q'⟩ := hs
    exact ⟨v, H', J.os, J.bare, J.base, J.hok, rv, q'⟩
  | next =>
    obtain ⟨σ', H', J, q'⟩ := hs
    exact ⟨.non, H', J.os, J.bare, J.base, J.hok, rfl, q'⟩
  | brk =>
    obtain ⟨_, _, _, q'⟩ := hs
    exact False.elim q'
  | cont =>
    obtain ⟨_, _, _, q'⟩ := hs
    exact False.elim q'
end
/-- the classes of errors, by their number, and their names -/
def errN : List Str := ["InvalidRule", "InvalidLog", "InvalidDay", "InvalidNumber", "InvalidSeen", "NothingToUndo", "TooMany"]
def ErrW (ec : Nat → Addr) (D : Addr) (wd : Str) : Prop := ∃ i, i < 7 ∧ D = ec i ∧ errN[i]? = some wd
structure ErrC (K : PySem.W.Frag) (mg : Str → Option Value) (ec : Nat → Addr) : Prop where
  c : ∀ i, i < 7 → ExcC K (ec i)
  k : ∀ i, i < 7 → ∀ j, j < 7 → PySem.W.kitOne K (.ref (ec i)) (.ref (ec j)) = some (decide (i = j))
  m : ∀ i x, errN[i]? = some x → mg x = some (.ref (ec i))
end Dt
namespace Dt
open PySem PySem.Spec PyProof.Rows L2
variable [TabG]
section
variable {X : Cx} {pins : List (Addr × Obj)} {σ : L2.St} {H : Hp} {s : Shared}
theorem pu_lam {P c : Addr} {ps : Array Value} {pos : Pos} (hP : H P = some (.tbl ps)) (nC : H c = none) (ht : TriplesOk ps.toList) : Pu H (upd (upd H P (.tbl (ps ++ #[rawInt pos.line, rawInt pos.col, .ref c]))) c (LamX.CodeO c (TabG.nm P))) := by
  have e0 : ∀ b o, H b = some o → NT o → upd (upd H P (.tbl (ps ++ #[rawInt pos.line, rawInt pos.col, .ref c]))) c (LamX.CodeO c (TabG.nm P)) b = some o := fun b o e n => by
    rw [upd_ne (ne_of_none e nC), upd_ne (fun z => nt_ne n ps (Option.some.inj (e.symm.trans (by rw [z]; exact hP))))]; exact e
  have nPc : P ≠ c := ne_of_none hP nC
  refine ⟨Same.refl _, fun _ _ e => (by cases e), fun a o _ n e => e0 a o e n, fun a h => ?_, fun _ _ e => (by cases e), fun P' t => ?_⟩
  · by_cases h1 : a = c
    · rw [h1, upd_same]; exact Option.some_ne_none _
    · rw [upd_ne h1]
      by_cases h2 : a = P
      · rw [h2, upd_same]; exact Option.some_ne_none _
      · rw [upd_ne h2]; exact h
  · obtain ⟨ps', a1, a2, a3⟩ := t
    by_cases hb : P' = P
    · subst hb
      obtain rfl : ps = ps' := by rw [hP] at a1; cases a1; rfl
      have eL : (ps ++ #[rawInt pos.line, rawInt pos.col, .ref c]).toList = ps.toList ++ [rawInt pos.line, rawInt pos.col, .ref c] := by simp
      refine ⟨_, by rw [upd_ne nPc, upd_same], by rw [eL]; exact PySem.TriplesOk_snoc _ _ _ _ a2, fun p' cv hcv => ?_⟩
      rw [eL] at hcv
      exact (LamX.among_app _ a2 hcv).elim (fun z => let ⟨c0, e1, e2⟩ := a3 p' cv z; ⟨c0, e1, e0 _ _ e2 trivial⟩) fun z => ⟨c, z, upd_same⟩
    · exact ⟨ps', by rw [upd_ne (ne_of_none a1 nC), upd_ne hb]; exact a1, a2, fun p' cv hcv => let ⟨c0, e1, e2⟩ := a3 p' cv hcv; ⟨c0, e1, e0 _ _ e2 trivial⟩⟩
/-- a lambda is made: f is new, its code object's name is known -/
theorem lam_mk {c P : Addr} {params : Arguments} {body : Expr} {scope : Scope} {pos : Pos} {E Q : Value → Shared → Prop} (I : Inv X pins σ H s) (TB : LamX.TabB X.base X.mg c P) (hcode : X.env.code = .ref c) (hq : TabG.nm P = X.env.qual ++ "<lambda>") (hT : LamX.TabS H P (TabG.nm P))
    (hdef : defaultsOf params X.env = ([], [])) (hfree : ∀ y ∈ scope.names, y.2 = .free → ∃ c, X.env.cells.lookup y.1 = some c)
    (h : ∀ (f c' : Addr) (pm ctv : Value) (H1 : Hp) (s' : Shared), Inv X pins σ H1 s' → Pu H H1 → (∀ a o, a ≠ P → H a = some o → H1 a = some o) → s'.heap.get? f = some (PySem.W.kla_obj "<lambda>" (X.env.qual ++ "<lambda>") params body scope (cloFrom X.env.cells scope.names []) pm c' ctv) → H1 f = none → f ∉ frs X.stack → H1 c' = some (LamX.CodeO c' (X.env.qual ++ "<lambda>")) → Q (.ref f) s') :
    wpAny (model X.prog X.w) X.A (eval (.Lambda params body scope pos) X.env) Q E s := by
  have hT' := hT; obtain ⟨ps, hP, ht, ha⟩ := hT'
  have bP : s.heap.BuiltinsAt X.mg P := TB.bm.keeps I.bk; have hP' : s.heap.get? P = some { cls := .none, data := .fields ps } := I.hok P _ hP
  have nofr : ∀ f, s.heap.objs.size ≤ f → f ∉ frs X.stack := fun f hf z => (List.mem_cons.mp (I.stkSub _ z)).elim (fun e => absurd (Nat.lt_of_lt_of_le I.lt (by rw [← e]; exact hf)) (Nat.lt_irrefl _)) fun e => I.nofs hf e
  refine PySem.W.kla_eval hdef ?_
  cases hc : codeAmong pos ps.toList with
  | some cv =>
    obtain ⟨c', rfl, hco⟩ := ha pos cv hc
    rw [hq] at hco
    exact PySem.W.kla_makeFunctionHit (mg := X.mg) (c := c) (P := P) (ps := ps) (closure_ok hfree) I.ok.glob (I.mod.glob.keeps I.bk) hcode (TB.code.keeps I.bk) hP' ht hc bP fun ctv h' tk hx hsz =>
      h h'.objs.size c' ((X.mg "__name__").getD .none) ctv H _ (I.kept (t' := tk) fun b o e => Heap.get?_push_of_some _ (hx b o e)) Pu.refl (fun _ _ _ e => e) (Heap.get?_push_size _ rfl) (I.hok.fresh hsz) (nofr _ hsz) hco
  | none =>
    refine PySem.W.kla_makeFunction (mg := X.mg) (c := c) (P := P) (ps := ps) (closure_ok hfree) I.ok.glob (I.mod.glob.keeps I.bk) hcode (TB.code.keeps I.bk) hP' ht hc TB.gP bP fun c' ctv h' tk hx hge hlt hrec htb => ?_
    obtain ⟨c2, oc, vs, t, e2, hoc, hd, hv⟩ := hrec; cases e2
    have hsz : s.heap.objs.size ≤ h'.objs.size := Nat.le_trans hge (Nat.le_of_lt hlt); have nC : H c' = none := I.hok.fresh hge
    have I1 := LamX.inv_table (q := X.env.qual ++ "<lambda>") (t' := tk) (more := #[rawInt pos.line, rawInt pos.col, .ref c']) (h' := h'.push (PySem.W.kla_obj "<lambda>" (X.env.qual ++ "<lambda>") params body scope (cloFrom X.env.cells scope.names []) ((X.mg "__name__").getD .none) c' ctv)) I hP (fun b o hb e => Heap.get?_push_of_some _ (hx b o hb e)) (Heap.get?_push_of_some _ htb) hge ⟨oc, vs, t, Heap.get?_push_of_some _ hoc, hd, hv⟩
    have pu := pu_lam (pos := pos) hP nC ht
    rw [hq] at pu
    exact h h'.objs.size c' ((X.mg "__name__").getD .none) ctv _ _ I1 pu (fun a o n e => by rw [upd_ne (ne_of_none e nC), upd_ne n]; exact e) (Heap.get?_push_size _ rfl) (by rw [upd_ne (Nat.ne_of_gt hlt), upd_ne (Nat.ne_of_gt (Nat.lt_of_lt_of_le (Heap.lt_size hP') hsz))]; exact I.hok.fresh hsz) (nofr _ hsz) upd_same
end
/-- f may be called without arguments wherever what stands at (s, H) stands: r tells what it does -/
structure Thk (P : Program) (w : World) (K : PySem.W.Frag) (mg : Str → Option Value) (base : Heap) (k : Nat) (fs : List Addr) (s : Shared) (H : Hp) (f : Addr) (r : Hp → VK → XK → Prop) : Prop where
  fn : ∀ (H' : Hp) (s' : Shared), Un fs [] H H' s.heap s'.heap → Same H H' → HOk P w H' s'.heap → PySem.W.FnAt f s'.heap
  run : ∀ (A : Around) (outer : List Env) (s' : Shared) (H' : Hp) (Q : VK) (E : XK), Room k A → Env0 P w K mg base A outer s' H' → Un fs [] H H' s.heap s'.heap → Same H H' → r H' Q E → codeAny (model P w) A (.call (.ref f) ⟨[], []⟩) (CR (L2N.CX P w) outer P w H' s' Q E) s'
/-- the context of the lambda's body: exceptions have no context -/
abbrev lamCxN (X : Cx) (A : Around) (outer : List Env) (s : Shared) (H : Hp) (E : XK) (scope : Scope) (f c' : Addr) : Cx :=
  (LamX.lamCx X A outer s H E scope f c').tr [] fun e s' => wpAny (model X.prog X.w) (A.deeper (LamX.lamEnv X scope s.heap.objs.size f c')) (leaving (LamX.lamEnv X scope s.heap.objs.size f c') e) (fun _ s'' => L2N.CX X.prog X.w outer H s E e s'') (fun e' s'' => L2N.CX X.prog X.w outer H s E e' s'') s'
theorem lam_takes {X : Cx} {A : Around} {outer : List Env} {s : Shared} {H : Hp} {E : XK} {scope : Scope} {f c' : Addr} : L2N.Takes (lamCxN X A outer s H E scope f c') (WK E) := L2N.takes_of rfl rfl rfl rfl
/-- the lambda, made in the frame of X, called while X's frame stands as it is -/
theorem thk_of {X : Cx} {pins : List (Addr × Obj)} {σ : L2.St} {H : Hp} {s : Shared} {f c' : Addr} {pm ctv : Value} {params : Arguments} {body : Expr} {scope : Scope} {k : Nat} {tb : XK → TE} (I : Inv X pins σ H s) (L : LamX.LamS X.env.scope scope)
    (hf : ∀ (H' : Hp) (s' : Shared), Un (frs X.stack) [] H H' s.heap s'.heap → Same H H' → HOk X.prog X.w H' s'.heap → s'.heap.get? f = some (PySem.W.kla_obj "<lambda>" (X.env.qual ++ "<lambda>") params body scope (cloFrom X.env.cells scope.names []) pm c' ctv))
    (hco : H c' = some (LamX.CodeO c' (X.env.qual ++ "<lambda>"))) (hbind : bindArgs (PySem.W.kla_fn "<lambda>" (X.env.qual ++ "<lambda>") params body scope (cloFrom X.env.cells scope.names []) pm (.ref c') ctv) ⟨[], []⟩ = pure [])
    (hbody : ∀ (A : Around) (outer : List Env) (s : Shared) (H : Hp) (E : XK), Room k (A.deeper (LamX.lamEnv X scope s.heap.objs.size f c')) → PE (lamCxN X A outer s H E scope f c') body (tb E)) :
    Thk X.prog X.w X.K X.mg X.base (k + 1) (frs X.stack) s H f (fun H' Q E => tb E σ H' Q) := ⟨fun H' s' un pu hok => ⟨_, _, _, _, hf H' s' un pu hok⟩, fun A outer s1 HZ Q E hr e0 un pu ht => by
  have of1 := hf HZ s1 un pu e0.hok
  obtain ⟨⟨oc, vs, t, hoc, hdc, hvc⟩, _, _⟩ := e0.hok c' _ (pu c' _ hco)
  have lim : s1.heap.NoLimit := e0.mod.nolimit.keeps fun b o e => (e0.bs b o e).1
  refine PySem.W.kla_callFunE hr.depth of1 rfl L.co L.gen rfl ⟨c', oc, vs, t, rfl, hoc, hdc, hvc⟩ ?_
  rw [hbind]
  refine wpAny_pure (wpAny_newFunctionEnv (fun y hy => (L.own y hy).2) (fun y hy => absurd hy (by simp)) (fun h₁ hns hsb => ⟨lim.fresh _ hsb, ?_⟩) L.kind)
  show codeAny _ _ (.expr body (LamX.lamEnv X scope s1.heap.objs.size f c')) _ _
  have kp : ∀ b o, s1.heap.get? b = some o → h₁.get? b = some o := fun b o e => hsb.extBut b o (Nat.ne_of_lt (Heap.lt_size e)) (Heap.get?_push_of_some _ e)
  have J : Inv (LamX.lamCx X A outer s1 HZ E scope f c') [] σ HZ { s1 with heap := h₁, toks := s1.toks + ([] : List (Str × Value)).length } := LamX.lam_start2 I L e0 hr.hd un hns kp
  refine PySem.W.kla_codeExpr (wpAny_mono ((hbody A outer s1 HZ E (hr.deeper _)).run [] _ _ HZ Q (J.toTry _) ht) (fun v s' hq => ?_) fun e s' hq => hq)
  obtain ⟨w', H', J', rv, q⟩ := hq
  exact ⟨w', H', J'.os, J'.bare, J'.base, J'.hok, rv, q⟩⟩
end Dt
namespace Dt
open PySem PySem.Spec PyProof.Rows L2
variable [TabG]
/-- what is called stands in slot i; entry H0 -/
def tThk (g : Addr) (i : Nat) (H0 : Hp) (r : Hp → VK → XK → Prop) (W : L2.WX) : TE := fun σ H Q => σ[i]? = some (some (.ref g)) ∧ Same H0 H ∧ r H Q fun cls d H' => W cls d σ H'
section
variable {X : Cx}
/-- x(): what is called stands in slot i -/
theorem pe_thk {W : L2.WX} {r : Hp → VK → XK → Prop} {k i : Nat} {a : Str} {g : Addr} {p1 p2 : Pos} (T : Thk X.prog X.w X.K X.mg X.base k X.fs X.s_0 X.H_0 g r) (tk : L2N.Takes X W) (hr : Room k X.A) (hex : X.ex = [])
    (hN : X.N[i]? = some a) (hv : Vis X.env.scope a) (hd : (a == ("__debug__" : Str)) = false := by decide) (hcd : (a == ("__classdict__" : Str)) = false := by decide) :
    PE X (.Call (.Name a p1) [] [] p2) (tThk g i X.H_0 r W) := ⟨fun pins s σ H Q I h => by
  obtain ⟨hs, pu, ht⟩ := h
  refine wpAny_Call_Name_kw (thn ((pe_var (pos := p1) (i := i) hN hv hd hcd).run pins s σ H (fun v H1 => v = .ref g ∧ H1 = H) I ⟨.ref g, hs, rfl, rfl⟩) fun u s1 ⟨v, H1, I1, r1, ev, eH⟩ => ?_)
  subst ev; rw [eH] at I1; obtain rfl : u = Value.ref g := r1
  have un : Un X.fs [] X.H_0 H X.s_0.heap s1.heap := by have := I1.base; rw [hex] at this; exact this
  refine PySem.W.callWith_F0 (T.fn H s1 un pu I1.hok) (wpAny_call (codeAny_mono (T.run X.A X.stack s1 H Q (fun cls d H' => W cls d σ H') hr I1.env0 un pu ht) fun r' s' hq => ?_))
  cases r' with
  | error e => exact tk e s' (L2N.XE.of_call I1 (fun _ _ _ z => z) hq)
  | ok fl => cases fl with
    | ret u => exact I1.after hq
    | next => exact False.elim hq
    | brk => exact False.elim hq
    | cont => exact False.elim hq⟩
/-- the name of the error that is handled -/
def tErrAs (ew : Addr → Str → Prop) (i : Nat) (a : Addr) (cls : Value) (d : Option Addr) : TE := fun σ H Q => σ[i]? = some (some (.ref a)) ∧ ∃ D wd, cls = .ref D ∧ d = none ∧ ew D wd ∧ ∀ H', Same H H' → Q (.str wd) H'
/-- x(e): the def that is called with the error handled -/
theorem pe_err {ew : Addr → Str → Prop} {k i : Nat} {x y : Str} {f : Addr} {p : Addr × Obj} {cls : Value} {d : Option Addr} {p1 p2 p3 : Pos} (F : ErrFn X.prog X.w X.K X.mg X.base k f ew) (hr : L2H.RoomH k X.A) (hot : L2H.Hot1 X.A p) (hp : p ∈ X.pn) (hz : Zc cls d p.2) (hf : ∃ vs, p.2.data = .fields vs)
    (hg : Gl X x) (hm : X.mg x = some (.ref f)) (hk : PySem.W.keepIn X.K (.ref f) = true) (hN : X.N[i]? = some y) (hv : Vis X.env.scope y)
    (hdb : (x == ("__debug__" : Str)) = false := by decide) (hd : (y == ("__debug__" : Str)) = false := by decide) (hcd : (y == ("__classdict__" : Str)) = false := by decide)
    (he : starEach [.Name y p2] X.env = (false, eval (.Name y p2) X.env) :: starEach [] X.env := by rfl) (hpl : (backTo p3 (starEach [] X.env)).any (·.1) = false := by rfl) :
    PE X (.Call (.Name x p1) [.Name y p2] [] p3) (tErrAs ew i p.1 cls d) := ⟨fun pins s σ H Q I h => by
  obtain ⟨hs, D, wd, rfl, rfl, hw, kk⟩ := h
  refine wpAny_Call_Name_kw (ld_glob I hg hm ?_ hdb)
  refine PySem.W.callWith_K (h₀ := X.base) I.ok.mod.kin hk (thn ((pa_cons (pe_var (pos := p2) (i := i) hN hv hd hcd) pa_nil he).run p3 pins s σ H (fun vs H1 => vs = [.ref p.1] ∧ H1 = H) I ⟨.ref p.1, hs, rfl, rfl⟩) fun us s1 ⟨vs, H1, I1, r, ev, eH⟩ => ⟨I1.kIn, ?_⟩) he hpl
  subst ev; rw [eH] at I1
  cases r with
  | cons r0 rr =>
    cases rr; cases r0
    have P1 := I1.pin p (List.mem_append_left _ hp)
    refine wpAny_call (codeAny_mono (F X.A X.stack s1 H p D wd Q (fun _ _ _ => False) hr hot ⟨P1.1, P1.2.1, fun hm => (List.mem_cons.mp (I1.stkSub p.1 hm)).elim P1.2.2.1 P1.2.2.2.1, P1.2.2.2.2⟩ I1.env0 hz hf hw kk) fun r' s' hq => ?_)
    cases r' with
    | error e => exact False.elim hq
    | ok fl => cases fl with
      | ret u => exact I1.after hq
      | next => exact False.elim hq
      | brk => exact False.elim hq
      | cont => exact False.elim hq⟩
end
end Dt
namespace Dt
open PySem PySem.Spec PyProof.Rows L2
variable [TabG]
/-- what r does is wished for: told of a pair ("value", v), or of the error's name -/
def OutR (ew : Addr → Str → Prop) (H : Hp) (Q : VK) (r : Hp → VK → XK → Prop) : Prop := ∀ (H' : Hp) (Q' : VK) (E' : XK), Same H H' → (∀ v H1, (∀ H2 p, Same H1 H2 → H1 p = none → H2 p = some (.tup [.str "value", v]) → Q (.ref p) H2) → Q' v H1) →
  (∀ D wd H1, ew D wd → (∀ H2 p, Same H1 H2 → H1 p = none → H2 p = some (.tup [.str wd]) → Q (.ref p) H2) → E' (.ref D) none H1) → r H' Q' E'
/-- called with what may be called: ("value", v), or the error's name -/
def OutF (P : Program) (w : World) (K : PySem.W.Frag) (mg : Str → Option Value) (base : Heap) (k kt : Nat) (f : Addr) (ew : Addr → Str → Prop) : Prop := ∀ (A : Around) (outer : List Env) (s : Shared) (H : Hp) (g : Addr) (r : Hp → VK → XK → Prop) (Q : VK), Room k A → Env0 P w K mg base A outer s H →
  Thk P w K mg base kt (frs outer) s H g r → OutR ew H Q r →
  codeAny (model P w) A (.call (.ref f) ⟨[.ref g], []⟩) (CR CX0 outer P w H s Q E0) s
theorem takesN0 {X : Cx} : L2N.Takes X (fun _ _ _ _ => False) := fun _ _ x => by
  obtain ⟨_, _, _, _, _, _, _, _, _, _, _, _, _, _, _, _, z⟩ := x
  exact z.elim
theorem sa_old {H H' : Hp} {p : Addr} (pu : Same H H') (h : H' p = none) : H p = none := by
  cases e : H p with
  | none => rfl
  | some o => rw [pu p o e] at h; cases h
section
variable {X : Cx} {g f ct : Addr} {r : Hp → VK → XK → Prop} {k ke : Nat} {ew : Addr → Str → Prop} {a b c d e : Pos} {p1 p2 p3 p4 p5 p6 p7 p8 p9 p10 p11 p12 p13 p14 p15 p16 p17 p18 : Pos} {j1 j2 : Nat} {k1 k2 k3 : Nat} {rr : Value → Shared → Prop}
theorem out_body (hs : X.stack = X.env :: X.outer) (hfr : X.env.frame = some X.env.locals) (hex : X.ex = []) (hN : X.N = [("call" : Str), "found", "e"]) (T : Thk X.prog X.w X.K X.mg X.base k X.fs X.s_0 X.H_0 g r) (hr : Room k X.A) (F : ErrFn X.prog X.w X.K X.mg X.base ke f ew) (hre : L2H.RoomH ke X.A)
    (l0 : X.env.scope.names.lookup ("call" : Str) = some .local) (l1 : X.env.scope.names.lookup ("found" : Str) = some .local) (l2 : X.env.scope.names.lookup ("e" : Str) = some .local) (l3 : Gl X "TaskError") (l4 : Gl X "_law_error") (hm : X.mg "TaskError" = some (.ref ct)) (hme : X.mg "_law_error" = some (.ref f)) (hk : PySem.W.keepIn X.K (.ref f) = true)
    (hx : ∀ D wd, ew D wd → PySem.W.exmOne X.K (.ref D) (.ref ct) = some true)
    (sw1 : swapsWith (.Tuple [.Constant (.str "nothing") j1 p1] k1 p2) (some (.Name "found" p3)) p4.line X.env = pure false := by rfl) (sw2 : swapsWith (.Tuple [.Constant (.str "value") j2 p5, .Call (.Name "call" p6) [] [] p7] k2 p8) (some (.Name "found" p9)) p10.line X.env = pure false := by rfl)
    (sw3 : swapsWith (.Tuple [.Call (.Name "_law_error" p11) [.Name "e" p12] [] p13] k3 p14) (some (.Name "found" p15)) p16.line X.env = pure false := by rfl) :
    ∃ t, PSs X [.Assign [.Name "found" p3] (.Tuple [.Constant (.str "nothing") j1 p1] k1 p2) p4, .Try [.Assign [.Name "found" p9] (.Tuple [.Constant (.str "value") j2 p5, .Call (.Name "call" p6) [] [] p7] k2 p8) p10] [.ExceptHandler (some (.Name "TaskError" p17)) (some "e") [.Assign [.Name "found" p15] (.Tuple [.Call (.Name "_law_error" p11) [.Name "e" p12] [] p13] k3 p14) p16] p18] [] [] a, .Return (some (.Name "found" b)) c] t ∧
      ∀ (D : Ends), OutR ew X.H_0 D.rt r → t D [some (.ref g), none, none] X.H_0 := by
  have nd : X.N.Nodup := by rw [hN]; decide
  have i0 : X.N[0]? = some ("call" : Str) := by rw [hN]; rfl
  have i1 : X.N[1]? = some ("found" : Str) := by rw [hN]; rfl
  have i2 : X.N[2]? = some ("e" : Str) := by rw [hN]; rfl
  refine ⟨_, pss_cons (ps_set nd i1 (.inl l1) (pe_tup (pa_cons pe_str pa_nil)) sw1 (.inr l1)) (pss_cons (L2N.ps_try_as (tb := fun W => tAsg (tTup (tCons (tC (.str "value")) (tCons (tThk g 0 X.H_0 r W) tNil))) (gName 1)) (ts := fun a cls d => tAsg (tTup (tCons (tErrAs ew 2 a cls d) tNil)) (gName 1)) hs hfr nd i2 l2 ⟨l3, by decide, .inl hm⟩ takesN0 (fun W pn xe tk _ => pss_one (ps_set nd i1 (.inl l1) (pe_tup (pa_cons pe_str (pa_cons (pe_thk (X := X.tr pn xe) T tk hr hex i0 (.inl l0)) pa_nil))) sw2 (.inr l1)))
    (fun a oe cls d pn hz hf => pss_one (ps_set nd i1 (.inl l1) (pe_tup (pa_cons (pe_err (X := X.suite a ((a, oe) :: pn)) (p := (a, oe)) F ⟨hre.dp, hre.un⟩ ?_ List.mem_cons_self hz.zc hf l4 hme hk i2 (.inl l2)) pa_nil)) sw3 (.inr l1)))) (pss_one (ps_ret (pe_var i1 (.inl l1) (by decide) (by decide))))), fun D h => ?_⟩
  · obtain ⟨vs, hv⟩ := hf
    exact ⟨rfl, vs, hv, hz.2.2 vs hv⟩
  · simp only [tSeq, tAsg, tTup, tCons, tC, tNil, gName, tRet, tVar, tThk, List.set_cons_zero, List.set_cons_succ, List.getElem?_cons_zero, List.getElem?_cons_succ]
    have z1 : ∀ x : V, [x].length ≤ sizeLine := fun x => by show 1 ≤ sizeLine; decide
    have z2 : ∀ x y : V, [x, y].length ≤ sizeLine := fun x y => by show 2 ≤ sizeLine; decide
    refine ⟨z1 _, fun p0 h0 => ⟨trivial, same_new h0, h _ _ _ (same_new h0) (fun v H1 kk => ⟨z2 _ _, fun p h1 => ⟨_, rfl, kk _ p (same_new h1) h1 upd_same⟩⟩) fun D' wd H1 hw kk => ⟨true, hx D' wd hw, fun _ a _ => ?_, fun z => by cases z⟩⟩⟩
    simp only [tSeq, tAsg, tTup, tCons, tNil, gName, tRet, tVar, tErrAs, List.set_cons_zero, List.set_cons_succ, List.getElem?_cons_zero, List.getElem?_cons_succ]
    exact ⟨trivial, D', wd, rfl, trivial, hw, fun H2 pu => ⟨z1 _, fun p h2 => ⟨_, rfl, kk _ p (pu.trans (same_new h2)) (sa_old pu h2) upd_same⟩⟩⟩
end
section
variable {P : Program} {w : World} {K : PySem.W.Frag} {mg : Str → Option Value} {base : Heap} {x : Str} {st : Stmt} {f : Addr} {fd : FuncData} {k kt : Nat}
theorem outF_mk {ew : Addr → Str → Prop} (F : FunD K x x (defArgs st) (defBody st) (defScope st) [] [] f fd) (sc : FnScope ["call", "found", "e"] ["call"] (defScope st)) (hb : Binds K fd ["call"] [])
    (body : ∀ (cdv : Value) (A : Around) (outer : List Env) (s : Shared) (H : Hp) (g : Addr) (r : Hp → VK → XK → Prop), Room k (A.deeper (envOfC x (defScope st) s.heap.objs.size f cdv)) → Thk P w K mg base kt (frs outer) s H g r →
      ∃ t, PSs (cxOf CX0 P w K mg base ["call", "found", "e"] x (defScope st) f cdv A outer s H E0) (defBody st) t ∧ ∀ (D : Ends), OutR ew H D.rt r → t D [some (.ref g), none, none] H) :
    OutF P w K mg base (k + 1) kt f ew := fun A outer s H g r Q hr e0 T ho => by
  obtain ⟨oc, od, dV, kV, doc, pm, an, cdv, ct, osl, rfl, lk, hcd, _, _⟩ := F.ex
  have KX : K.In s.heap := e0.mod.kin.keeps fun b o e => (e0.bs b o e).1
  exact LamX.run_ofS (vs := [V.ref g]) (us := [.ref g]) (E := E0) lk hcd sc hr e0 (hb s [.ref g] KX rfl) (.cons rfl .nil) rfl fun hr' => by
    obtain ⟨t, ht, hq⟩ := body cdv A outer s H g r hr' T
    exact ⟨t, ht, hq _ ho⟩
end
end Dt
namespace Dt
open PySem PySem.Spec PyProof.Rows L2
variable [TabG]
structure OutC (P : Program) (w : World) (K : PySem.W.Frag) (mg : Str → Option Value) (base : Heap) (k kt : Nat) (ew : Addr → Str → Prop) : Prop where
  ex : ∃ g, OutF P w K mg base k kt g ew ∧ mg "_law_outcome" = some (.ref g) ∧ PySem.W.keepIn K (.ref g) = true
/-- what the making of lambdas asks of the maker: its code object, its table -/
structure LamC (X : Cx) (P : Addr) : Prop where
  ex : ∃ c, LamX.TabB X.base X.mg c P ∧ X.env.code = .ref c
  nm : TabG.nm P = X.env.qual ++ "<lambda>"
def tOut (ew : Addr → Str → Prop) (P : Addr) (tb : XK → TE) : TE := fun σ H Q => LamX.TabS H P (TabG.nm P) ∧ ∀ H1, Pu H H1 → (∀ a o, a ≠ P → H a = some o → H1 a = some o) → OutR ew H1 Q fun H' Q' E' => tb E' σ H' Q'
section
variable {X : Cx} {ew : Addr → Str → Prop} {params : Arguments} {lb : Expr} {scope : Scope} {p lpos pos : Pos} {k k' kt : Nat} {P : Addr}
theorem pe_out {tb : XK → TE} (C : OutC X.prog X.w X.K X.mg X.base k (kt + 1) ew) (hr : Room k' X.A) (M : LamC X P) (L : LamX.LamS X.env.scope scope) (hg : Gl X "_law_outcome")
    (hbody : ∀ (A : Around) (outer : List Env) (s : Shared) (H : Hp) (E : XK) (f c' : Addr), Room kt (A.deeper (LamX.lamEnv X scope s.heap.objs.size f c')) → PE (lamCxN X A outer s H E scope f c') lb (tb E)) (hk : k ≤ k' := by decide) (hdef : defaultsOf params X.env = ([], []) := by rfl)
    (hbind : ∀ (q : Str) (cl : List (Str × Addr)) (pm cv ctv : Value), bindArgs (PySem.W.kla_fn "<lambda>" q params lb scope cl pm cv ctv) ⟨[], []⟩ = pure [] := by exact fun _ _ _ _ _ => rfl) :
    PE X (.Call (.Name "_law_outcome" p) [.Lambda params lb scope lpos] [] pos) (tOut ew P tb) := ⟨fun pins s σ H Q I h => by
  obtain ⟨hT, h⟩ := h
  obtain ⟨g, F, hm, hkp⟩ := C.ex
  obtain ⟨c, TB, hcode⟩ := M.ex
  refine wpAny_Call_Name_kw (ld_glob I hg hm ?_ (by decide))
  refine PySem.W.callWith_K (h₀ := X.base) I.ok.mod.kin hkp ?_ (by rfl) (by rfl)
  show wpAny _ _ (spliced ((false, eval (.Lambda params lb scope lpos) X.env) :: backTo pos (starEach [] X.env))) _ _ s
  refine Calls.spliced_cons (lam_mk I TB hcode M.nm hT hdef (L.has I.ok) fun f c' pm' ctv H1 s' I1 pu ne hf hfn hfr hco => Calls.spliced_nil ⟨I1.kIn, ?_⟩)
  have T : Thk X.prog X.w X.K X.mg X.base (kt + 1) (frs X.stack) s' H1 f (fun H' Q E => tb E σ H' Q) := thk_of I1 L (fun H' s2 un _ _ => un.keep f _ hf hfn hfr (by simp)) hco (hbind _ _ _ _ _) fun A outer s H E hr2 => hbody A outer s H E f c' hr2
  refine wpAny_call (codeAny_mono (F X.A X.stack s' H1 f _ Q (hr.mono hk) I1.env0 T (h H1 pu ne)) fun r s2 hq => ?_)
  cases r with
  | error e => exact False.elim hq
  | ok fl => cases fl with
    | ret u => exact I1.after hq
    | next => exact False.elim hq
    | brk => exact False.elim hq
    | cont => exact False.elim hq⟩
end
section
variable [TabC] {K : PySem.W.Frag} {mb : Option Addr} {js : Nat} {pn : Option V} {G H H1 H' : Hp} {f : Nat} {σ : L2.St} {ρ : Rho} {P : Addr}
theorem Stt.sameL (S : Stt K mb js pn G H f σ ρ) (hP : P ∈ TabC.T) (ne : ∀ a o, a ≠ P → H a = some o → H1 a = some o) : Same G H1 := fun a o e => ne a o (fun z => by rw [z, (S.tk P hP).2] at e; cases e) (S.gh a o e)
/-- the lambda's state: the maker's, without the bag -/
theorem Stt.lam (S : Stt K mb js pn G H f σ ρ) (hP : P ∈ TabC.T) (pu : Pu H H1) (ne : ∀ a o, a ≠ P → H a = some o → H1 a = some o) (sm : Same H1 H') : Stt K none 1000000 none G H' 0 σ ρ where
  gh := (S.sameL hP ne).trans sm
  gb := fun _ e => nomatch e
  bi := Bag.no
  bj := fun _ e => nomatch e
  pj := fun _ e => nomatch e
  ln := S.ln
  ft := S.ft
  ow := fun i ds e => by
    obtain ⟨p, vs, h1, h2, h3, h4, h5⟩ := S.ow i ds e
    exact ⟨p, vs, h1, h2, sm _ _ (pu.hh p _ (fun z => nomatch z) trivial h3), h4, fun z => nomatch z⟩
  sp := S.sp
  gf := S.gf
  tk := fun Q h => ⟨(pu.tb Q (S.tk Q h).1).ext sm, (S.tk Q h).2⟩
theorem go_out {p : Addr} {H2 H3 G2 : Hp} {o : HO} (S : Stt K mb js pn G H f σ ρ) (hP : P ∈ TabC.T) (pu : Pu H H1) (ne : ∀ a o, a ≠ P → H a = some o → H1 a = some o) (sm : Same H1 H') (g : Go none G H' G2 H2) (s3 : Same H2 H3) (hp : H2 p = none) (hv : H3 p = some o) :
    Go mb G H (upd G2 p o) H3 := by
  have nz : ∀ {A B : Hp}, Same A B → ∀ a, A a ≠ none → B a ≠ none := fun {A B} s a h => by
    cases e : A a with
    | none => exact absurd e h
    | some o => rw [s a o e]; exact Option.some_ne_none o
  have g1 : Go mb G H G2 H3 := ⟨g.gg, g.gh.trans s3, fun a o _ t h => s3 _ _ (g.hh a o (fun z => nomatch z) t (sm _ _ (pu.hh a o (fun z => nomatch z) t h))), fun a h => nz s3 a (g.hd a (nz sm a (pu.hd a h))), fun a o h => (g.nw a o h).imp id fun z => by
    cases e : H a with
    | none => rfl
    | some u => exact absurd z (nz sm a (pu.hd a (by rw [e]; exact Option.some_ne_none u))), fun Q t => (g.tb Q ((pu.tb Q t).ext sm)).ext s3⟩
  have gp : G2 p = none := same_none g.gh hp
  refine g1.add ?_ gp hv
  cases e : H p with
  | none => rfl
  | some u => exact absurd hp (g.hd p (nz sm p (pu.hd p (by rw [e]; exact Option.some_ne_none u))))
theorem bag_out {H2 H3 G2 : Hp} (S : Stt K mb js pn G H f σ ρ) (pu : Pu H H1) (sm : Same H1 H') (g : Go none G H' G2 H2) (s3 : Same H2 H3) : Bag mb f H3 := (((S.bi.pur pu).same sm).pur g).same s3
end
/-- what certainly raises, at its state -/
def trOf [TabC] (K : PySem.W.Frag) (mb : Option Addr) (js : Nat) (pn : Option V) (dr : DR) (E : XK) : TE := fun σ H _ => ∃ (G : Hp) (f : Nat) (ρ : Rho) (R : Addr → Prop), Stt K mb js pn G H f σ ρ ∧ dr ρ f R ∧ ∀ C f' G' H', Go mb G H G' H' → Bag mb f' H' → R C → E (.ref C) none H'
theorem XR.can [TabC] {X : Cx} {mb : Option Addr} {js : Nat} {pn : Option V} {E : XK} {e : Expr} {dr : DR} (h : ∃ te, XR X mb js pn E e te dr) : PE X e (trOf X.K mb js pn dr E) := ⟨fun pins s σ H Q I q => by
  obtain ⟨te, h⟩ := h
  obtain ⟨G, f, ρ, R, S, q, k⟩ := q
  exact h.pe.run pins s σ H Q I (h.sm G H f σ ρ R S q Q k)⟩
/-- _law_outcome(lambda: ..), the lambda raises -/
def dOutX (ew : Addr → Str → Prop) (dr : DR) : DE := fun ρ f P => dr ρ 0 fun C => ∃ wd, ew C wd ∧ P (.tuple [.str wd]) f
section
variable [TabC] {X : Cx} {mb : Option Addr} {js : Nat} {pn : Option V} {ew : Addr → Str → Prop} {params : Arguments} {lb : Expr} {scope : Scope} {p lpos pos : Pos} {k k' kt : Nat} {P : Addr}
theorem xe_outX {dr : DR} (C : OutC X.prog X.w X.K X.mg X.base k (kt + 1) ew) (hr : Room k' X.A) (M : LamC X P) (hP : P ∈ TabC.T) (L : LamX.LamS X.env.scope scope) (hg : Gl X "_law_outcome")
    (hbody : ∀ (A : Around) (outer : List Env) (s : Shared) (H : Hp) (E : XK) (f c' : Addr), Room kt (A.deeper (LamX.lamEnv X scope s.heap.objs.size f c')) → ∃ te, XR (lamCxN X A outer s H E scope f c') none 1000000 none E lb te dr) (hk : k ≤ k' := by decide) (hdef : defaultsOf params X.env = ([], []) := by rfl)
    (hbind : ∀ (q : Str) (cl : List (Str × Addr)) (pm cv ctv : Value), bindArgs (PySem.W.kla_fn "<lambda>" q params lb scope cl pm cv ctv) ⟨[], []⟩ = pure [] := by exact fun _ _ _ _ _ => rfl) :
    XE X mb js pn (.Call (.Name "_law_outcome" p) [.Lambda params lb scope lpos] [] pos) (tOut ew P (trOf X.K none 1000000 none dr)) (dOutX ew dr) :=
  ⟨pe_out C hr M L hg (fun A outer s H E f c' h => XR.can (hbody A outer s H E f c' h)) hk hdef hbind, fun G H f σ ρ R S q Q kk => ⟨(S.tk P hP).1, fun H1 pu ne H' Q' E' sm _ hE => ⟨G, 0, ρ, _, S.lam hP pu ne sm, q, fun D f' G2 H2 g b ⟨wd, hw, hq⟩ => hE D wd H2 hw fun H3 p s3 hp hv =>
    kk (.ref p) _ f (upd G2 p (.tup [.str wd])) H3 (go_out S hP pu ne sm g s3 hp hv) (bag_out S pu sm g s3) (.tup (.inl (.inl upd_same)) (.one (.str wd))) hq⟩⟩⟩
end
end Dt
namespace Mt
open PySem Dt
def rowAt (l : List (List Int)) (i : Int) : PyData := tupI (l.getD i.toNat [])
def wLogAt : RCD := wF (fun a : (Rule × Int × Option Int) × Int => RowsOk a.1 ∧ 0 ≤ a.2 ∧ a.2 < ((rowsOf a.1.1 a.1.2.1.toNat a.1.2.2).length : Int)) (fun a => [ruleD a.1.1, .int a.1.2.1, .int a.2, optD a.1.2.2]) (fun a => rowAt (rowsOf a.1.1 a.1.2.1.toNat a.1.2.2) a.2)
/-- a number that is no place among the rows -/
def wLogAtX (C : Addr) : List PyData → Addr → Prop := fun ds D => ∃ a : (Rule × Int × Option Int) × PyData, RowsOk a.1 ∧ inRg a.2 0 (((rowsOf a.1.1 a.1.2.1.toNat a.1.2.2).length : Int) - 1) = false ∧ ds = [ruleD a.1.1, .int a.1.2.1, a.2, optD a.1.2.2] ∧ D = C
def wLawAll : List PyData → (List PyData → Prop) → Prop := wN (fun n : Nat => n ≤ 14) (fun n => [.int n]) (fun n => (srt n).map tupI)
theorem atD_row {l : List (List Int)} {i : Int} (h0 : 0 ≤ i) (h1 : i < (l.length : Int)) : atD (l.map tupI) i = some (rowAt l i) := by
  unfold atD rowAt
  rw [if_pos h0, List.getElem?_map, List.getElem?_eq_getElem (by omega), Option.map_some]
  rw [List.getD_eq_getElem?_getD, List.getElem?_eq_getElem (by omega), Option.getD_some]
/-- counted by a number that is at most n -/
theorem sum_ind (v : Nat) : ∀ n, v < n → ((List.range n).map fun m => if v = m then (1 : Int) else 0).sum = 1
  | 0, h => absurd h (Nat.not_lt_zero _)
  | n + 1, h => by
    rw [List.range_succ, List.map_append, List.sum_append, List.map_singleton, List.sum_singleton]
    by_cases e : v = n
    · subst e
      rw [if_pos rfl]
      have z : ∀ l : List Nat, (∀ m ∈ l, m < v) → (l.map fun m => if v = m then (1 : Int) else 0).sum = 0 := fun l => by
        induction l with
        | nil => intro _; rfl
        | cons x xs ih =>
          intro hx
          rw [List.map_cons, List.sum_cons, ih fun m hm => hx m (List.mem_cons_of_mem _ hm), if_neg (by have := hx x List.mem_cons_self; omega)]
          rfl
      rw [z _ fun m hm => List.mem_range.mp hm]
      rfl
    · rw [if_neg e, sum_ind v n (by omega)]
      rfl
theorem sum_add {α : Type} (f g : α → Int) : ∀ l : List α, (l.map fun x => f x + g x).sum = (l.map f).sum + (l.map g).sum
  | [] => rfl
  | x :: xs => by
    rw [List.map_cons, List.map_cons, List.map_cons, List.sum_cons, List.sum_cons, List.sum_cons, sum_add f g xs]
    omega
theorem sum_zero {α : Type} : ∀ l : List α, (l.map fun _ => (0 : Int)).sum = 0
  | [] => rfl
  | x :: xs => by
    rw [List.map_cons, List.sum_cons, sum_zero xs]
    rfl
theorem count_by {α : Type} (v : α → Nat) (n : Nat) : ∀ l : List α, (∀ x ∈ l, v x < n) → ((List.range n).map fun m => ((l.filter fun x => decide (v x = m)).length : Int)).sum = (l.length : Int)
  | [], _ => sum_zero _
  | x :: xs, h => by
    have e : ((List.range n).map fun m => (((x :: xs).filter fun x => decide (v x = m)).length : Int)) = (List.range n).map fun m => (if v x = m then (1 : Int) else 0) + ((xs.filter fun x => decide (v x = m)).length : Int) := by
      apply List.map_congr_left
      intro m _
      by_cases q : v x = m
      · rw [if_pos q, List.filter_cons_of_pos (by simpa using q), List.length_cons]
        omega
      · rw [if_neg q, List.filter_cons_of_neg (by simpa using q)]
        omega
    rw [e, sum_add, sum_ind _ _ (h x List.mem_cons_self), count_by v n xs fun y hy => h y (List.mem_cons_of_mem _ hy), List.length_cons]
    omega
/-- all rows, counted by how often they are done -/
theorem rows_sum (r : Rule) (n : Nat) : ((List.range (n + 1)).map fun (m : Nat) => ((rowsOf r n (some (m : Int))).length : Int)).sum = ((srt n).length : Int) := by
  have e := count_by (fun row => (done r row).length) (n + 1) (srt n) fun row hrow => by
    have h1 := done_len r row
    have h2 := (srt_row hrow).1
    show (done r row).length < n + 1
    omega
  rw [← e]
  apply congrArg
  apply List.map_congr_left
  intro m _
  unfold rowsOf okT
  apply congrArg
  apply congrArg
  apply congrArg (fun p => List.filter p (srt n))
  funext row
  show decide (((done r row).length : Int) = (m : Int)) = decide ((done r row).length = m)
  by_cases q : (done r row).length = m
  · rw [decide_eq_true q, decide_eq_true (by rw [q])]
  · rw [decide_eq_false q, decide_eq_false (fun z => q (by exact_mod_cast z))]
theorem getD_len {l : List (List Int)} {n : Nat} (h : ∀ row ∈ l, row.length ≤ n) (i : Nat) : (l.getD i []).length ≤ n := by
  rw [List.getD_eq_getElem?_getD]
  cases e : l[i]? with
  | none => exact Nat.zero_le _
  | some row => exact h row (List.mem_of_getElem? e)
theorem row_small {r : Rule} {n : Nat} {o : Option Int} (hn : n ≤ 14) (i : Nat) : ((rowsOf r n o).getD i []).length ≤ 14 :=
  getD_len (fun row hrow => by have := (srt_row (List.mem_filter.mp hrow).1).1; omega) i
theorem plN_row {row : List Int} (h : row.length ≤ 14) : PlN 4 (tupI row) := by
  refine .inr ⟨_, .inr rfl, by rw [List.length_map]; omega, fun x hx => ?_⟩
  obtain ⟨z, _, rfl⟩ := List.mem_map.mp hx
  exact .inl rfl
theorem sh_row (row : List Int) : SeqAt.shaped (tupI row) = true := shT row
theorem eqv_row (a b : List Int) : PyData.eqv (tupI a) (tupI b) = decide (a = b) := eqvT a b
theorem rowAt_eqv (l : List (List Int)) (i : Int) : (!(PyData.eqv (rowAt l i) (rowAt l i))) = false := by
  have e : PyData.eqv (rowAt l i) (rowAt l i) = true := (eqv_row _ _).trans (decide_eq_true rfl)
  rw [e]
  rfl
theorem inRg_hi (m : Int) : inRg (.int m) 0 (m - 1) = false := by
  show (decide (0 ≤ m) && decide (m ≤ m - 1)) = false
  rw [Bool.and_eq_false_iff]
  right
  exact decide_eq_false (by omega)
theorem rows_none (r : Rule) (n : Nat) : rowsOf r n none = srt n := List.filter_eq_self.mpr fun _ _ => rfl
theorem srt3 : srt 3 = [[], [0], [0, 1], [0, 1, 2], [0, 2], [1], [1, 2], [2]] := (srtL_uniq (n := 3) (l := [[], [0], [0, 1], [0, 1, 2], [0, 2], [1], [1, 2], [2]]) (by decide +kernel) (by decide +kernel)).symm
def rA2 : Rule := ⟨.after, 2, 0⟩
def rP1 : Rule := ⟨.pile, 1, 0⟩
theorem cA2 : ((rowsOf rA2 (3 : Int).toNat (some 1)).length : Int) = 5 := by
  rw [rows_count]
  decide +kernel
theorem atA2 : rowAt (rowsOf rA2 (3 : Int).toNat none) 1 = .tuple [.int 0] := by
  rw [rows_none]
  show rowAt (srt 3) 1 = _
  rw [srt3]
  rfl
theorem lenA2 : (1 : Int) < ((rowsOf rA2 (3 : Int).toNat none).length : Int) := by
  rw [rows_none]
  show (1 : Int) < ((srt 3).length : Int)
  rw [srt3]
  decide
theorem cP1 : ((rowsOf rP1 (14 : Int).toNat none).length : Int) = 16384 := by
  rw [rows_none]
  show ((srt 14).length : Int) = 16384
  rw [srt_len]
  rfl
theorem okA2 (o : Option Int) (h : ∀ m, o = some m → 0 ≤ m ∧ m ≤ 14) : RowsOk (rA2, 3, o) := ⟨mk_ok (by decide) (by decide) (by decide) (by decide), ⟨by show (0 : Int) ≤ 3; decide, by show (3 : Int) ≤ 14; decide⟩, h⟩
theorem okP1 : RowsOk (rP1, 14, none) := ⟨mk_ok (by decide) (by decide) (by decide) (by decide), ⟨by decide, by decide⟩, fun m h => by cases h⟩
end Mt
namespace Dt
open PySem PySem.Spec PyProof.Rows L2
variable [TabG]
/-- what is told of an error's class -/
def excCB (K : PySem.W.Frag) (D : Addr) : Bool := He.eqO (PySem.W.findIn K (.ref D) "__getattribute__") (some (some (.builtin "BaseException.__getattribute__"))) && (He.eqO (PySem.W.findIn K (.ref D) "__getattr__") (some none) && (decide (PySem.W.subIn K (.ref D) (.type "BaseException") = some true) && (PySem.W.hasDictIn K D && (He.eqO (PySem.W.findIn K (.ref D) "__class__") (some (some (.builtin "object.__class__"))) &&
  (He.eqO (PySem.W.specialIn K (.builtin "object.__class__") "__get__") (some (some (.builtin "getset_descriptor.__get__"))) && (decide (PySem.W.takesIn K (.builtin "object.__class__") = some true) && decide (PySem.W.mroIn K D (.type "object") = some true)))))))
theorem excCB_ok {K : PySem.W.Frag} {D : Addr} (h : excCB K D = true) : ExcC K D := by
  unfold excCB at h
  obtain ⟨h1, h⟩ := He.ba h
  obtain ⟨h2, h⟩ := He.ba h
  obtain ⟨h3, h⟩ := He.ba h
  obtain ⟨h4, h⟩ := He.ba h
  obtain ⟨h5, h⟩ := He.ba h
  obtain ⟨h6, h⟩ := He.ba h
  obtain ⟨h7, h8⟩ := He.ba h
  exact ⟨He.eqO_ok h1, He.eqO_ok h2, of_decide_eq_true h3, h4, He.eqO_ok h5, He.eqO_ok h6, of_decide_eq_true h7, of_decide_eq_true h8⟩
def ecA (K : PySem.W.Frag) (i : Nat) : Addr := He.ga K (errN.getD i "")
def errB (K : PySem.W.Frag) : Bool := (List.range 7).all fun i => excCB K (ecA K i) && (List.range 7).all fun j => decide (PySem.W.kitOne K (.ref (ecA K i)) (.ref (ecA K j)) = some (decide (i = j)))
theorem errC_of {K : PySem.W.Frag} {mg : Str → Option Value} (h : errB K = true) (hm : ∀ x ∈ errN, mg x = some (.ref (He.ga K x))) : ErrC K mg (ecA K) := by
  have key : ∀ i, i < 7 → excCB K (ecA K i) = true ∧ ∀ j, j < 7 → PySem.W.kitOne K (.ref (ecA K i)) (.ref (ecA K j)) = some (decide (i = j)) := fun i hi => by
    obtain ⟨h1, h2⟩ := He.ba (List.all_eq_true.mp h i (List.mem_range.mpr hi))
    exact ⟨h1, fun j hj => of_decide_eq_true (List.all_eq_true.mp h2 j (List.mem_range.mpr hj))⟩
  refine ⟨fun i hi => excCB_ok (key i hi).1, fun i hi j hj => (key i hi).2 j hj, fun i x e => ?_⟩
  rw [hm x (List.mem_of_getElem? e)]
  unfold ecA
  rw [List.getD_eq_getElem?_getD, e, Option.getD_some]
theorem excK_of {K : PySem.W.Frag} {mg : Str → Option Value} {x : Str} (hm : mg x = some (.ref (He.ga K x))) (h : (He.Fa.exc x).ok K = true) : ExcK K mg x (He.ga K x) := by
  obtain ⟨h1, h2, h3, h4⟩ := He.exc_ok h
  exact ⟨hm, h1, h2, h3, h4⟩
theorem code_of {K : PySem.W.Frag} {x qual : Str} {params : Arguments} {body : List Stmt} {scope : Scope} {dvs : List V} {kws : List (Str × V)} {fd : FuncData} {p : Str × Option Str} (F : FunD K x qual params body scope dvs kws (He.fAd K p) fd) : fd.code = .ref (He.cT K p).1 := by
  obtain ⟨oc, od, dV, kV, doc, pm, an, cdv, ct, osl, rfl, lk, hcd, _, _⟩ := F.ex
  obtain ⟨c, e⟩ := He.codeIn_ref hcd
  have e : (PySem.W.fnOf x qual params body scope dV kV doc pm an cdv ct).code = .ref c := e
  rw [e]
  exact congrArg Value.ref (He.codeOf_eq lk e).symm
end Dt
namespace Pr
open PySem PySem.Spec PyProof.Rows L2 Dt Mt
def topS (i : Nat) : Stmt := PySem.Challenge.pw_repeattasks_k18_logs_counted.main.body.getD i (.Pass ⟨0, 0, 0, 0⟩)
local macro_rules | `(tactic| walk_at "dd") => `(tactic| simp only [dOutX, dCallX, dCallXD, dCallXK, dLc, wipeD, rEqDd, rNeDd, rInI, rNiI, rSumD, rMaxD, rAllD, rTupleD, Dt.rListD, dSeq, dSet, dSetB, dSetL, dTg, dApp, dExpr, dIf, dRet, dRetN, dRetO, dRet0, dNext, dPar, dParDL, dParLD, dParLL, dFor, dForI, dVar, dC, dL, dOp, dNil, dCons, dTup, dLst, dB, dAnd, dOr, dNot, dAndV, dOrV, dNotV, dIfE, dCB, dCBN, dUn, dChain, dCall, dCallN, dCallB, dIsi, dIsiT, iZpA, dPar3, dCatN, dStates, dRule, dMost, rSortZD, dCallD, dCallKw, rIsBd, rNotBd, dSetLB, dLstRg3, iEnT, rIsNd, rNotNd, rSortedD, iLst, iTpl, iSeq, iRg1, iRg2, iEnD, iZpL, iZpT, dPart, dNoP, dSlL, dSlT, rI2, rN2, rEqS, rNeS, Dt.rIxD, rNegD, rLenDd, rMax2d, rMin2d, rCatTd, rCatL, itemsOf, atD0, atD1, atD2, rho0, setT, setL, vw, bo, ruleD, logD, List.map_cons, List.map_nil, List.set_cons_zero, List.set_cons_succ, List.getElem?_cons_zero, List.getElem?_cons_succ, List.length_cons, List.length_nil, List.tail_cons, List.cons_append, List.nil_append, List.replicate, Nat.sub_zero, Nat.zero_add, Nat.reduceAdd, Nat.reduceSub, Int.toNat_zero, Int.reduceToNat, Int.reduceLE, Int.reduceLT, if_true, if_false, ite_true, ite_false, Bool.false_eq_true, Bool.not_true, Bool.not_false, decide_true, decide_false, decide_eq_true_eq])
local macro_rules | `(tactic| walk_at "ks") => `(tactic| simp only [Kd.s, ke1, ke2, ke3, ke4, ke5, ke6, if_true, if_false, ite_true, ite_false, eq_self])
local macro_rules | `(tactic| walk_at "ss") => `(tactic| simp only [setT, setL, List.set_cons_zero, List.set_cons_succ, List.map_cons, List.map_nil])

section
variable [TabG] {P : Program} {w : World} {K : PySem.W.Frag} {mg : PySem.Str → Option Value} {base : Heap}
abbrev s_in_range : Stmt := topS 13
theorem sc_in_range : FnScope ["value", "low", "high"] ["value", "low", "high"] (defScope s_in_range) := ⟨rfl, rfl, rfl, by decide +kernel, rfl, by decide +kernel, by decide +kernel⟩
theorem fn_in_range {f : Addr} {fd : FuncData} (F : FunD K "in_range" "in_range" (defArgs s_in_range) (defBody s_in_range) (defScope s_in_range) [] [] f fd) (gm : mg "in_range" = some (.ref f)) (m_isinstance : mg "isinstance" = none) (m_bool : mg "bool" = none) (m_int : mg "int" = none) :
    Fn P w K mg base "in_range" 1 ["value", "low", "high"] (spP K wInRange) :=
  fnP_mk (st := s_in_range) (N := ["value", "low", "high"]) F sc_in_range gm (F.bindsN fun _ _ _ _ _ _ us hl => match us, hl with | [_, _, _], _ => rfl) (wF_len fun _ => rfl) (by decide) fun cdv A outer s H E hr => by
    have sc := sc_in_range
    refine ⟨_, _, (xss_one (xs_ret (xe_and (xe_isi (T := "int") (xe_var 0) isi_int (by rfl) m_isinstance (by rfl) m_int (by decide +kernel) (by decide +kernel)) (xe_and (xe_not (xe_isi (T := "bool") (xe_var 0) isi_bool (by rfl) m_isinstance (by rfl) m_bool (by decide +kernel) (by decide +kernel))) (xe_one (xe_chain op_le sim_le op_le sim_le (xe_var 1) (xe_var 0) (xe_var 2))))))), ?_⟩
    rintro _ Q ⟨⟨v, lo, hi⟩, _, rfl, q⟩
    cases v <;> (walk_at "dd"; try simp only [isiD, tyN])
    all_goals (simp (config := { decide := true }) only [isiD, tyN, inRg, if_true, if_false] at q ⊢)
    all_goals (try exact q)
    rename_i i
    by_cases h : lo ≤ i
    · simpa [h] using q
    · simpa [h] using q
abbrev s_is_kind : Stmt := topS 14
theorem sc_is_kind : FnScope ["value"] ["value"] (defScope s_is_kind) := ⟨rfl, rfl, rfl, by decide +kernel, rfl, by decide +kernel, by decide +kernel⟩
theorem fn_is_kind {f : Addr} {fd : FuncData} (F : FunD K "is_kind" "is_kind" (defArgs s_is_kind) (defBody s_is_kind) (defScope s_is_kind) [] [] f fd) (gm : mg "is_kind" = some (.ref f)) {a_KINDS : Addr} (g_KINDS : mg "KINDS" = some (.ref a_KINDS)) (r_KINDS : ∀ G, Rp K G (.ref a_KINDS) (.tuple [.str "after", .str "fixed", .str "pile"])) (m_isinstance : mg "isinstance" = none) (m_str : mg "str" = none) :
    Fn P w K mg base "is_kind" 1 ["value"] (spP K wIsKind) :=
  fnP_mk (st := s_is_kind) (N := ["value"]) F sc_is_kind gm (F.bindsN fun _ _ _ _ _ _ us hl => match us, hl with | [_], _ => rfl) (wF_len fun _ => rfl) (by decide) fun cdv A outer s H E hr => by
    have sc := sc_is_kind
    refine ⟨_, _, (xss_one (xs_ret (xe_and (xe_isi (T := "str") (xe_var 0) isi_str (by rfl) m_isinstance (by rfl) m_str (by decide +kernel) (by decide +kernel)) (xe_one (xe_cmp op_in_seq sim_inS (xe_var 0) (xe_globT g_KINDS r_KINDS (by rfl)) (by rfl)))))), ?_⟩
    rintro _ Q ⟨v, _, rfl, q⟩
    cases v <;> (walk_at "dd"; simp (config := { decide := true }) only [isiD, tyN, isKindD, rInS, itemsOf, if_true, if_false] at q ⊢)
    all_goals (try exact q)
    exact ⟨kinds, rfl, q⟩
abbrev s_is_rule : Stmt := topS 15
theorem sc_is_rule : FnScope ["value"] ["value"] (defScope s_is_rule) := ⟨rfl, rfl, rfl, by decide +kernel, rfl, by decide +kernel, by decide +kernel⟩
theorem fn_is_rule {f : Addr} {fd : FuncData} (F : FunD K "is_rule" "is_rule" (defArgs s_is_rule) (defBody s_is_rule) (defScope s_is_rule) [] [] f fd) (gm : mg "is_rule" = some (.ref f)) (c_is_kind : Fn P w K mg base "is_kind" 1 ["value"] (spP K wIsKind)) (m_len : mg "len" = none) (m_isinstance : mg "isinstance" = none) (m_tuple : mg "tuple" = none) (c_in_range : Fn P w K mg base "in_range" 1 ["value", "low", "high"] (spP K wInRange)) {t_MOST_START : Tok} (g_MOST_START : mg "MOST_START" = some (.int 1000 t_MOST_START)) {t_MOST_EVERY : Tok} (g_MOST_EVERY : mg "MOST_EVERY" = some (.int 100 t_MOST_EVERY)) :
    Fn P w K mg base "is_rule" 2 ["value"] (spP K wIsRule) :=
  fnP_mk (st := s_is_rule) (N := ["value"]) F sc_is_rule gm (F.bindsN fun _ _ _ _ _ _ us hl => match us, hl with | [_], _ => rfl) (wF_len fun _ => rfl) (by decide) fun cdv A outer s H E hr => by
    have sc := sc_is_rule
    refine ⟨_, _, (xss_cons (xs_if (XW.t (xw_or (xt_not (xt_val (xe_isi (T := "tuple") (xe_var 0) isi_tuple (by rfl) m_isinstance (by rfl) m_tuple (by decide +kernel) (by decide +kernel)))) (xw_or (xt_cmp op_ne sim_neS (xe_callB call_len_seq sim_len (by rfl) m_len (by decide +kernel) (xa_cons (xe_var 0) xa_nil)) xe_int (nomark _)) (xw_or1 (xt_not (xt_val (xe_call c_is_kind hr (by rfl) (xa_cons (xe_ix (xe_var 0) xe_int) xa_nil)))))))) (xss_one (xs_ret xe_bool)) xss_nil)
    (xss_one (xs_ret (xe_and (xe_call c_in_range hr (by rfl) (xa_cons (xe_ix (xe_var 0) xe_int) (xa_cons xe_int (xa_cons (xe_globI g_MOST_EVERY (by rfl)) xa_nil)))) (xe_one (xe_call c_in_range hr (by rfl) (xa_cons (xe_ix (xe_var 0) xe_int) (xa_cons xe_int (xa_cons (xe_globI g_MOST_START (by rfl)) xa_nil))))))))), ?_⟩
    rintro _ Q ⟨v, _, rfl, q⟩
    rcases tup_or v with ⟨ds, rfl⟩ | hv
    · by_cases hl : ds.length = 3
      · obtain ⟨a, b, c, rfl⟩ := len3 hl
        walk_at "dd"
        simp only [isi_tt, Bool.not_true, Bool.false_eq_true, if_false]
        refine ⟨a, trivial, rfl, ?_⟩
        simp only [isRuleD] at q
        cases ha : isKindD a with
        | false =>
          simp only [ha, Bool.false_and] at q ⊢
          exact q
        | true =>
          simp only [ha, Bool.true_and] at q ⊢
          refine ⟨(b, 1, 100), trivial, rfl, ?_⟩
          cases hb : inRg b 1 100 with
          | false =>
            simp only [hb, Bool.false_and] at q ⊢
            exact q
          | true =>
            simp only [hb, Bool.true_and] at q ⊢
            exact ⟨(c, 0, 1000), trivial, rfl, q⟩
      · walk_at "dd"
        have h3 : ¬ ((ds.length : Int) = 3) := by omega
        simp only [isi_tt, Bool.not_true, Bool.false_eq_true, if_false, h3, decide_false, Bool.not_false, if_true]
        simp only [isRule_n3 hl] at q
        exact q
    · walk_at "dd"
      simp only [isi_tn hv, Bool.not_false, if_true]
      simp only [isRule_nt hv] at q
      exact q
abbrev s_check_rule : Stmt := topS 16
theorem sc_check_rule : FnScope ["value"] ["value"] (defScope s_check_rule) := ⟨rfl, rfl, rfl, by decide +kernel, rfl, by decide +kernel, by decide +kernel⟩
theorem fn_check_rule {f : Addr} {fd : FuncData} (F : FunD K "check_rule" "check_rule" (defArgs s_check_rule) (defBody s_check_rule) (defScope s_check_rule) [] [] f fd) (gm : mg "check_rule" = some (.ref f)) (c_is_rule : Fn P w K mg base "is_rule" 2 ["value"] (spP K wIsRule)) :
    Fn P w K mg base "check_rule" 3 ["value"] (spP K wCheckRule) :=
  fnP_mk (st := s_check_rule) (N := ["value"]) F sc_check_rule gm (F.bindsN fun _ _ _ _ _ _ us hl => match us, hl with | [_], _ => rfl) (wF_len fun _ => rfl) (by decide) fun cdv A outer s H E hr => by
    have sc := sc_check_rule
    refine ⟨_, _, (xss_one (xs_if (xt_not (xt_val (xe_call c_is_rule hr (by rfl) (xa_cons (xe_var 0) xa_nil)))) (xss_one xs_never) xss_nil)), ?_⟩
    rintro _ Q ⟨v, ok, rfl, q⟩
    walk_at "dd"
    refine ⟨v, trivial, rfl, ?_⟩
    simp only [show isRuleD v = true from ok, Bool.not_true, Bool.false_eq_true, if_false]
    exact q
abbrev s_check_number : Stmt := topS 17
theorem sc_check_number : FnScope ["value", "low", "high"] ["value", "low", "high"] (defScope s_check_number) := ⟨rfl, rfl, rfl, by decide +kernel, rfl, by decide +kernel, by decide +kernel⟩
theorem fn_check_number {f : Addr} {fd : FuncData} (F : FunD K "check_number" "check_number" (defArgs s_check_number) (defBody s_check_number) (defScope s_check_number) [] [] f fd) (gm : mg "check_number" = some (.ref f)) (c_in_range : Fn P w K mg base "in_range" 1 ["value", "low", "high"] (spP K wInRange)) :
    Fn P w K mg base "check_number" 2 ["value", "low", "high"] (spP K wCheckNum) :=
  fnP_mk (st := s_check_number) (N := ["value", "low", "high"]) F sc_check_number gm (F.bindsN fun _ _ _ _ _ _ us hl => match us, hl with | [_, _, _], _ => rfl) (wF_len fun _ => rfl) (by decide) fun cdv A outer s H E hr => by
    have sc := sc_check_number
    refine ⟨_, _, (xss_one (xs_if (xt_not (xt_val (xe_call c_in_range hr (by rfl) (xa_cons (xe_var 0) (xa_cons (xe_var 1) (xa_cons (xe_var 2) xa_nil)))))) (xss_one xs_never) xss_nil)), ?_⟩
    rintro _ Q ⟨⟨v, lo, hi⟩, ok, rfl, q⟩
    walk_at "dd"
    refine ⟨(v, lo, hi), trivial, rfl, ?_⟩
    dsimp only
    rw [show inRg v lo hi = true from ok]
    exact q
abbrev s_due_after : Stmt := topS 18
theorem sc_due_after : FnScope ["rule", "due", "day", "kind", "every", "start"] ["rule", "due", "day"] (defScope s_due_after) := ⟨rfl, rfl, rfl, by decide +kernel, rfl, by decide +kernel, by decide +kernel⟩
theorem fn_due_after {f : Addr} {fd : FuncData} (F : FunD K "due_after" "due_after" (defArgs s_due_after) (defBody s_due_after) (defScope s_due_after) [] [] f fd) (gm : mg "due_after" = some (.ref f))  :
    Fn P w K mg base "due_after" 1 ["rule", "due", "day"] (spP K wDueAfter) :=
  fnP_mk (st := s_due_after) (N := ["rule", "due", "day", "kind", "every", "start"]) F sc_due_after gm (F.bindsN fun _ _ _ _ _ _ us hl => match us, hl with | [_, _, _], _ => rfl) (wF_len fun _ => rfl) (by decide) fun cdv A outer s H E hr => by
    have sc := sc_due_after
    refine ⟨_, _, (xss_cons (xs_tg (tg := .t [3, 4, 5]) (xe_var 0) (xg_tup (xgs_cons (xg_name 3 sc.nd) (xgs_cons (xg_name 4 sc.nd) (xgs_cons (xg_name 5 sc.nd) xgs_nil)))))
    (xss_cons (xs_if (xt_cmp op_eq sim_eqS (xe_var 3) xe_str (nomark _)) (xss_one (xs_ret (xe_op op_add sim_add (xe_var 2) (xe_var 4)))) xss_nil)
    (xss_cons (xs_if (xt_cmp op_eq sim_eqS (xe_var 3) xe_str (nomark _)) (xss_one (xs_ret (xe_op op_add sim_add (xe_var 1) (xe_var 4)))) xss_nil)
    (xss_one (xs_ret (xe_op op_sub sim_sub (xe_op op_add sim_add (xe_var 2) (xe_var 4)) (xe_op op_mod sim_mod (xe_op op_sub sim_sub (xe_var 2) (xe_var 5)) (xe_var 4)))))))), ?_⟩
    rintro _ Q ⟨⟨r, u, d⟩, ok, rfl, q⟩
    obtain ⟨k, e, s⟩ := r
    cases k
    all_goals walk_at "dd"
    all_goals walk_at "ks"
    all_goals first
      | exact q
      | exact ⟨Int.lt_of_lt_of_le (by decide) ok, q⟩
abbrev s_played : Stmt := topS 19
theorem sc_played : FnScope ["rule", "log", "due", "rows", "day"] ["rule", "log"] (defScope s_played) := ⟨rfl, rfl, rfl, by decide +kernel, rfl, by decide +kernel, by decide +kernel⟩
theorem fn_played {f : Addr} {fd : FuncData} (F : FunD K "played" "played" (defArgs s_played) (defBody s_played) (defScope s_played) [] [] f fd) (gm : mg "played" = some (.ref f)) (c_due_after : Fn P w K mg base "due_after" 1 ["rule", "due", "day"] (spP K wDueAfter)) :
    Fn P w K mg base "played" 2 ["rule", "log"] (spP K wPlayed) :=
  fnP_mk (st := s_played) (N := ["rule", "log", "due", "rows", "day"]) F sc_played gm (F.bindsN fun _ _ _ _ _ _ us hl => match us, hl with | [_, _], _ => rfl) (wF_len fun _ => rfl) (by decide) fun cdv A outer s H E hr => by
    have sc := sc_played
    refine ⟨_, _, (xss_cons (xs_parDL (xe_ix (xe_var 0) xe_int) (xn_lst xa_nil) (ps_two 2 3 sc.nd))
    (xss_cons (xs_forI (tg := .n 4) PassesOwn.never (xi_seq (xe_var 1)) (xg_name 4 sc.nd) (xss_one (xs_if (xt_cmp op_ge sim_ge (xe_var 4) (xe_var 2) (nomark _)) (xss_cons (xs_app 3 (xe_tup (xa_cons (xe_var 4) (xa_cons (xe_var 2) xa_nil))) (fun h => pe_bm PySem.F.plainAttrs_list PySem.F.slot_list_append PySem.F.type_list_append mt_append (pv 3) (pa_cons h pa_nil)))
    (xss_one (xs_set 2 sc.nd (xe_call c_due_after hr (by rfl) (xa_cons (xe_var 0) (xa_cons (xe_var 2) (xa_cons (xe_var 4) xa_nil))))))) xss_nil)))
    (xss_one (xs_ret (xe_tup (xa_cons (xe_var 3) (xa_cons (xe_var 2) xa_nil))))))), ?_⟩
    rintro _ Q ⟨⟨r, ns⟩, ok, rfl, q⟩
    walk_at "dd"
    refine ⟨fun xs ρ f => ∃ (ms : List Int) (u : Int) (acc : List (Int × Int)) (x : SV), xs = intsD ms ∧ ρ = [.d (ruleD r), .d (logD ns), .d (.int u), .l (rowsD acc), x] ∧ acc ++ (pl r ms u).1 = rows r ns ∧ (pl r ms u).2 = due r ns, ⟨ns, r.st, [], _, rfl, rfl, rfl, rfl⟩, ?_, ?_⟩
    · rintro x xs ρ f ⟨ms, u, acc, y, e, rfl, h1, h2⟩
      cases ms with
      | nil => cases e
      | cons m ms =>
        cases e
        walk_at "dd"
        unfold pl at h1 h2
        by_cases h : u ≤ m
        · rw [if_pos h] at h1 h2 ⊢
          have hl : (rowsD acc).length < 16777216 := by
            have h3 := rows_len r ns
            rw [← h1, List.length_append] at h3
            have h4 := ok.2
            unfold rowsD
            rw [List.length_map]
            simp only [] at h3 h4
            omega
          refine ⟨hl, (r, u, m), ok.1, rfl, ms, nxt r u m, acc ++ [(m, u)], SV.d (.int m), rfl, ?_, ?_, h2⟩
          · unfold rowsD
            rw [List.map_append]
            rfl
          · rw [List.append_assoc]
            exact h1
        · rw [if_neg h] at h1 h2 ⊢
          exact ⟨ms, u, acc, _, rfl, rfl, h1, h2⟩
    · rintro ρ f ⟨ms, u, acc, y, e, rfl, h1, h2⟩
      cases ms with
      | cons m ms => cases e
      | nil =>
        walk_at "dd"
        unfold pl at h1 h2
        rw [List.append_nil] at h1
        rw [h1, show u = due r ns from h2]
        exact q
abbrev s_rows_of : Stmt := topS 22
theorem sc_rows_of : FnScope ["rule", "days", "done", "found", "day", "row"] ["rule", "days", "done"] (defScope s_rows_of) := ⟨rfl, rfl, rfl, by decide +kernel, rfl, by decide +kernel, by decide +kernel⟩
theorem fn_rows_of {f : Addr} {fd : FuncData} (F : FunD K "rows_of" "rows_of" (defArgs s_rows_of) (defBody s_rows_of) (defScope s_rows_of) [] [] f fd) (gm : mg "rows_of" = some (.ref f)) (c_check_rule : Fn P w K mg base "check_rule" 3 ["value"] (spP K wCheckRule)) (c_check_number : Fn P w K mg base "check_number" 2 ["value", "low", "high"] (spP K wCheckNum)) {t_MOST_TICKS : Tok} (g_MOST_TICKS : mg "MOST_TICKS" = some (.int 14 t_MOST_TICKS)) (m_range : mg "range" = none) (m_sorted : mg "sorted" = none) (m_len : mg "len" = none) (c_played : Fn P w K mg base "played" 2 ["rule", "log"] (spP K wPlayed)) :
    Fn P w K mg base "rows_of" 4 ["rule", "days", "done"] (spN K wRowsOf) :=
  fnN_mk (st := s_rows_of) (N := ["rule", "days", "done", "found", "day", "row"]) F sc_rows_of gm (F.bindsN fun _ _ _ _ _ _ us hl => match us, hl with | [_, _, _], _ => rfl) (wN_len fun _ => rfl) (by decide) fun cdv A outer s H E hr => by
    have sc := sc_rows_of
    refine ⟨_, _, (xss_cons (xs_expr (xe_call c_check_rule hr (by rfl) (xa_cons (xe_var 0) xa_nil)))
    (xss_cons (xs_expr (xe_call c_check_number hr (by rfl) (xa_cons (xe_var 1) (xa_cons xe_int (xa_cons (xe_globI g_MOST_TICKS (by rfl)) xa_nil)))))
    (xss_cons (xs_if (xt_cmp op_notN sim_notN (xe_var 2) xe_none (by rfl)) (xss_one (xs_expr (xe_call c_check_number hr (by rfl) (xa_cons (xe_var 2) (xa_cons xe_int (xa_cons (xe_globI g_MOST_TICKS (by rfl)) xa_nil)))))) xss_nil)
    (xss_cons (xs_set 3 sc.nd (XN.ev (xn_lst (xa_cons (xe_tup xa_nil) xa_nil))))
    (xss_cons (xs_forI (tg := .n 4) PassesOwn.never (xi_range1 (xa_cons (xe_var 1) xa_nil) (by rfl) m_range) (xg_name 4 sc.nd) (xss_one (xs_set 3 sc.nd (xe_op op_cat sim_catL (xe_var 3) (XN.ev (xn_lc (own := [("row", 5)]) (tg := .n 5) sc.nd (xi_seq (xe_var 3)) (blkOk_by (N := ["rule", "days", "done", "found", "day", "row"]) (sc := defScope s_rows_of) (by decide +kernel)) (fun _ _ _ _ _ => (xg_name 5 sc.nd)) (fun _ _ _ _ _ => ⟨_, by exact xts_nil⟩) (fun _ _ _ _ _ => ⟨_, by exact (xe_op op_catA sim_catT (xe_var 5) (xe_tup (xa_cons (xe_var 4) xa_nil)))⟩)))))))
    (xss_one (xs_retN (xn_lc (own := [("row", 5)]) (tg := .n 5) sc.nd (xi_list (XN.ev (xn_callB (cr_sortZ hr.units) sim_sortZ (by rfl) m_sorted (by decide +kernel) (xa_cons (xe_var 3) xa_nil)))) (blkOk_by (N := ["rule", "days", "done", "found", "day", "row"]) (sc := defScope s_rows_of) (by decide +kernel)) (fun _ _ _ _ _ => (xg_name 5 sc.nd)) (fun _ _ _ _ _ => ⟨_, by exact (xts_one (XW.t (xw_or (xt_cmp op_isN sim_isN (xe_var 2) xe_none (by rfl)) (xw_or1 (xt_cmp op_eq sim_eqS (xe_callB call_len_seq sim_len (by rfl) m_len (by decide +kernel) (xa_cons (xe_ix (xe_call c_played hr (by rfl) (xa_cons (xe_var 0) (xa_cons (xe_var 5) xa_nil))) xe_int) xa_nil)) (xe_var 2) (nomark _))))))⟩) (fun _ _ _ _ _ => ⟨_, by exact (xe_var 5)⟩))))))))), ?_⟩
    rintro _ Q ⟨⟨r, n, o⟩, ok, rfl, q⟩
    have q : Q ((rowsOf r n.toNat o).map tupI) := q
    obtain ⟨hr, ⟨n0, n1⟩, ho⟩ := ok
    simp only [] at hr n0 n1 ho
    have he : 1 ≤ r.ev := hr.1.1
    have hn14 : n.toNat ≤ 14 := by omega
    refine seqK fun k hk => ?_
    walk_at "dd"
    refine ⟨_, isRule_ok hr, rfl, ?_⟩
    refine hk _ _ ?_
    clear hk k
    refine seqK fun k hk => ?_
    walk_at "dd"
    refine ⟨(.int n, 0, 14), inRg_ok n0 n1, rfl, ?_⟩
    refine hk _ _ ?_
    clear hk k
    refine seqK fun k hk => ?_
    have key : k [.d (ruleD r), .d (.int n), .d (optD o), .u, .u, .u] 0 := hk _ _ (by
      clear hk k
      refine seqK fun k hk => ?_
      walk_at "dd"
      refine hk _ _ ?_
      clear hk k
      refine seqK fun k hk => ?_
      refine forK fun R hR => ?_
      walk_at "dd"
      refine ⟨⟨by omega, by omega⟩, ?_⟩
      refine hR _ _ (fun xs ρ f => ∃ (j : Nat) (z4 : SV), xs = (rangeD 0 n.toNat).drop j ∧ j ≤ n.toNat ∧ ρ = [.d (ruleD r), .d (.int n), .d (optD o), .d (.list ((subs j).map tupI)), z4, .u]) ⟨0, _, rfl, Nat.zero_le _, rfl⟩ ?_ ?_
      · clear hR R
        rintro x xs ρ f ⟨j, z4, hx, hj, rfl⟩
        obtain ⟨h1, rfl, rfl⟩ := range_step hx
        walk_at "ss"
        walk_at "dd"
        have hp := pow14 (n := j) (by omega)
        have hsl := subs_len j
        refine ⟨by rw [List.length_map]; omega, lcGo_of tupI (fun row => tupI (row ++ [(j : Int)])) (fun row hrow f Q' h => ?_) ?_⟩
        · show dOp rCatTd (dVar 5) (dTup (dCons (dVar 4) dNil)) _ f Q'
          have h80 := (subs_row j row hrow).1
          walk_at "dd"
          rw [Int.zero_add]
          refine ⟨by rw [List.length_map]; show row.length + 1 ≤ 16777216; omega, ?_⟩
          rw [tup_snoc]
          exact h
        · rw [List.nil_append]
          refine ⟨by rw [List.length_map, List.length_map]; omega, j + 1, .d (.int (0 + (j : Int))), rfl, h1, ?_⟩
          rw [tups_succ]
      · rintro ρ f ⟨j, z4, hx, hj, rfl⟩
        have hj2 := range_end hx
        have ej : j = n.toNat := by omega
        subst ej
        refine hk _ _ ?_
        clear hR R hk k
        walk_at "dd"
        obtain ⟨rest, e⟩ := subs_head n.toNat
        refine ⟨rest, by rw [e]; rfl, fun nss' hp hso => ?_⟩
        rw [← e] at hp
        have es := srtL_uniq hp hso
        subst es
        have hp14 := pow14 hn14
        have hsl := srt_len n.toNat
        refine ⟨by rw [List.length_map]; omega, lcGo_ofF tupI (okT r o) tupI (fun row hrow => ?_) ?_⟩
        · obtain ⟨h1, h2, h3⟩ := srt_row hrow
          walk_at "ss"
          refine ⟨fun f Q' h => ?_, fun _ f Q' h => h⟩
          cases o with
          | none => exact h
          | some m =>
            unfold optD
            walk_at "dd"
            refine ⟨(r, row), ⟨he, by show row.length ≤ 1000000; omega⟩, rfl, ?_⟩
            walk_at "dd"
            rw [show (rowsD (rows r row)).length = (done r row).length by unfold rowsD done; rw [List.length_map, List.length_map]]
            exact h
        · rw [List.nil_append]
          exact q)
    cases o with
    | none =>
      unfold optD at key ⊢
      walk_at "dd"
      exact key
    | some m =>
      unfold optD at key ⊢
      walk_at "dd"
      have hm := ho m rfl
      exact ⟨(.int m, 0, 14), inRg_ok hm.1 hm.2, rfl, key⟩
abbrev s_count_logs : Stmt := topS 23
theorem sc_count_logs : FnScope ["rule", "days", "done"] ["rule", "days", "done"] (defScope s_count_logs) := ⟨rfl, rfl, rfl, by decide +kernel, rfl, by decide +kernel, by decide +kernel⟩
theorem fn_count_logs {f : Addr} {fd : FuncData} (F : FunD K "count_logs" "count_logs" (defArgs s_count_logs) (defBody s_count_logs) (defScope s_count_logs) [] [("done", .non)] f fd) (gm : mg "count_logs" = some (.ref f)) (m_len : mg "len" = none) (c_rows_of : Fn P w K mg base "rows_of" 4 ["rule", "days", "done"] (spN K wRowsOf)) :
    FnK P w K mg base "count_logs" 5 2 "done" ["rule", "days", "done"] (spP K wCount) :=
  fnK_mk (st := s_count_logs) (N := ["rule", "days", "done"]) (n := 2) (kn := "done") F sc_count_logs gm rfl (fun _ _ _ _ _ _ us ks hu hk => match us, ks, hu, hk with | [_, _], [_], _, _ => ⟨_, _, _, _, _, _, rfl, rfl, rfl⟩) (fun _ _ _ _ _ _ us ws hu hw => match us, ws, hu, hw with | [_, _], [_], _, _ => rfl) (wF_len fun _ => rfl) (by decide) fun cdv A outer s H E hr => by
    have sc := sc_count_logs
    refine ⟨_, _, (xss_one (xs_ret (xe_callB call_len_seq sim_len (by rfl) m_len (by decide +kernel) (xa_cons (XN.ev (xn_call c_rows_of hr (by rfl) (xa_cons (xe_var 0) (xa_cons (xe_var 1) (xa_cons (xe_var 2) xa_nil))))) xa_nil)))), ?_⟩
    rintro _ Q ⟨⟨r, n, o⟩, ok, rfl, q⟩
    walk_at "dd"
    refine ⟨(r, n, o), ok, rfl, ?_⟩
    dsimp only
    rw [List.length_map]
    exact q
abbrev s_log_at : Stmt := topS 24
theorem sc_log_at : FnScope ["rule", "days", "number", "done", "rows"] ["rule", "days", "number", "done"] (defScope s_log_at) := ⟨rfl, rfl, rfl, by decide +kernel, rfl, by decide +kernel, by decide +kernel⟩
theorem fn_log_at {f : Addr} {fd : FuncData} (F : FunD K "log_at" "log_at" (defArgs s_log_at) (defBody s_log_at) (defScope s_log_at) [] [("done", .non)] f fd) (gm : mg "log_at" = some (.ref f)) (c_rows_of : Fn P w K mg base "rows_of" 4 ["rule", "days", "done"] (spN K wRowsOf)) (c_in_range : Fn P w K mg base "in_range" 1 ["value", "low", "high"] (spP K wInRange)) (m_len : mg "len" = none) :
    FnK P w K mg base "log_at" 5 3 "done" ["rule", "days", "number", "done"] (spP K wLogAt) :=
  fnK_mk (st := s_log_at) (N := ["rule", "days", "number", "done", "rows"]) (n := 3) (kn := "done") F sc_log_at gm rfl (fun _ _ _ _ _ _ us ks hu hk => match us, ks, hu, hk with | [_, _, _], [_], _, _ => ⟨_, _, _, _, _, _, rfl, rfl, rfl⟩) (fun _ _ _ _ _ _ us ws hu hw => match us, ws, hu, hw with | [_, _, _], [_], _, _ => rfl) (wF_len fun _ => rfl) (by decide) fun cdv A outer s H E hr => by
    have sc := sc_log_at
    refine ⟨_, _, (xss_cons (xs_set 4 sc.nd (XN.ev (xn_call c_rows_of hr (by rfl) (xa_cons (xe_var 0) (xa_cons (xe_var 1) (xa_cons (xe_var 3) xa_nil))))))
    (xss_cons (xs_if (xt_not (xt_val (xe_call c_in_range hr (by rfl) (xa_cons (xe_var 2) (xa_cons xe_int (xa_cons (xe_op op_sub sim_sub (xe_callB call_len_seq sim_len (by rfl) m_len (by decide +kernel) (xa_cons (xe_var 4) xa_nil)) xe_int) xa_nil)))))) (xss_one xs_never) xss_nil)
    (xss_one (xs_ret (xe_ix (xe_var 4) (xe_var 2)))))), ?_⟩
    rintro _ Q ⟨⟨⟨r, n, o⟩, i⟩, ⟨ok, i0, i1⟩, rfl, q⟩
    simp only [] at i0 i1
    have hl := rows_len14 (r := r) (n := n.toNat) (o := o) (by obtain ⟨_, ⟨_, h⟩, _⟩ := ok; simp only [] at h; omega)
    walk_at "dd"
    refine ⟨(r, n, o), ok, rfl, ?_⟩
    dsimp only
    rw [List.length_map]
    refine ⟨(.int i, 0, ((rowsOf r n.toNat o).length : Int) - 1), trivial, rfl, ?_⟩
    dsimp only
    rw [inRg_ok i0 (by omega)]
    walk_at "dd"
    rw [atD_row i0 i1]
    exact q
theorem fnX_log_at {f C : Addr} {fd : FuncData} (F : FunD K "log_at" "log_at" (defArgs s_log_at) (defBody s_log_at) (defScope s_log_at) [] [("done", .non)] f fd) (gm : mg "log_at" = some (.ref f)) (c_rows_of : Fn P w K mg base "rows_of" 4 ["rule", "days", "done"] (spN K wRowsOf)) (c_in_range : Fn P w K mg base "in_range" 1 ["value", "low", "high"] (spP K wInRange)) (m_len : mg "len" = none) (x_InvalidNumber : ExcK K mg "InvalidNumber" C) :
    FnKX P w K mg base "log_at" 5 3 "done" ["rule", "days", "number", "done"] (spX K (wLogAtX C)) :=
  fnKX_mk (st := s_log_at) (N := ["rule", "days", "number", "done", "rows"]) (n := 3) (kn := "done") F sc_log_at gm rfl (fun _ _ _ _ _ _ us ks hu hk => match us, ks, hu, hk with | [_, _, _], [_], _, _ => ⟨_, _, _, _, _, _, rfl, rfl, rfl⟩) (fun _ _ _ _ _ _ us ws hu hw => match us, ws, hu, hw with | [_, _, _], [_], _, _ => rfl) (fun ds D h => by obtain ⟨_, _, _, rfl, _⟩ := h; rfl) (by decide) fun cdv A outer s H E hr tk => by
    have sc := sc_log_at
    refine ⟨_, _, (xss_cons (xs_set 4 sc.nd (XN.ev (xn_call c_rows_of hr (by rfl) (xa_cons (xe_var 0) (xa_cons (xe_var 1) (xa_cons (xe_var 3) xa_nil))))))
    (xss_cons (xs_if (xt_not (xt_val (xe_call c_in_range hr (by rfl) (xa_cons (xe_var 2) (xa_cons xe_int (xa_cons (xe_op op_sub sim_sub (xe_callB call_len_seq sim_len (by rfl) m_len (by decide +kernel) (xa_cons (xe_var 4) xa_nil)) xe_int) xa_nil)))))) (xss_one (xs_raise rfl tk x_InvalidNumber (by rfl))) xss_nil)
    (xss_one (xs_ret (xe_ix (xe_var 4) (xe_var 2)))))), ?_⟩
    rintro _ D ⟨⟨⟨r, n, o⟩, x⟩, ok, hx, rfl, rfl⟩
    have hl := rows_len14 (r := r) (n := n.toNat) (o := o) (by obtain ⟨_, ⟨_, h⟩, _⟩ := ok; simp only [] at h; omega)
    walk_at "dd"
    refine ⟨(r, n, o), ok, rfl, ?_⟩
    dsimp only
    rw [List.length_map]
    refine ⟨(x, 0, ((rowsOf r n.toNat o).length : Int) - 1), trivial, rfl, ?_⟩
    dsimp only
    rw [hx]
    walk_at "dd"
    exact ⟨rfl, rfl⟩
abbrev s_law_well : Stmt := topS 26
theorem sc_law_well : FnScope ["cell", "turn"] ["cell", "turn"] (defScope s_law_well) := ⟨rfl, rfl, rfl, by decide +kernel, rfl, by decide +kernel, by decide +kernel⟩
theorem fn_law_well {f : Addr} {fd : FuncData} (F : FunD K "_law_well" "_law_well" (defArgs s_law_well) (defBody s_law_well) (defScope s_law_well) [] [] f fd) (gm : mg "_law_well" = some (.ref f))  :
    Fn P w K mg base "_law_well" 1 ["cell", "turn"] (spN K wWell) :=
  fnN_mk (st := s_law_well) (N := ["cell", "turn"]) F sc_law_well gm (F.bindsN fun _ _ _ _ _ _ us hl => match us, hl with | [_, _], _ => rfl) wWell_len (by decide) fun cdv A outer s H E hr => by
    have sc := sc_law_well
    refine ⟨_, _, (xss_cons (xs_if (xt_cmp op_ge sim_ge (xe_var 0) (xe_op op_pow sim_pow xe_int xe_int) (nomark _)) (xss_one (xs_retN (xn_lst (xa_cons (xe_op op_sub sim_sub (xe_var 0) (xe_op op_pow sim_pow xe_int xe_int)) (xa_cons (xe_op op_mod sim_mod (xe_var 0) xe_int) (xa_cons (xe_var 1) xa_nil)))))) xss_nil)
    (xss_one (xs_retN (xn_lst (xa_cons xe_int (xa_cons (xe_op op_mod sim_mod (xe_var 0) xe_int) (xa_cons (xe_var 1) xa_nil))))))), ?_⟩
    rintro _ Q ⟨c, t, ht, rfl, q⟩
    walk_at "dd"
    refine ⟨⟨by decide, by decide, by decide⟩, ?_⟩
    have h1 := Int.emod_nonneg c (show (2305843009213693951 : Int) ≠ 0 by decide)
    have h2 := Int.emod_lt_of_pos c (show (0 : Int) < 2305843009213693951 by decide)
    split
    · exact ⟨⟨by decide, by decide, by decide⟩, by decide, q _ _ h1 h2⟩
    · exact ⟨by decide, q _ _ h1 h2⟩
abbrev s_law_take : Stmt := topS 27
theorem sc_law_take : FnScope ["bag", "many", "found", "p", "n"] ["bag", "many"] (defScope s_law_take) := ⟨rfl, rfl, rfl, by decide +kernel, rfl, by decide +kernel, by decide +kernel⟩
theorem fn_law_take {f : Addr} {fd : FuncData} (F : FunD K "_law_take" "_law_take" (defArgs s_law_take) (defBody s_law_take) (defScope s_law_take) [] [] f fd) (gm : mg "_law_take" = some (.ref f)) : Fn P w K mg base "_law_take" 1 ["bag", "many"] (spB K wTake) := by
  refine ⟨f, fd, ?_, gm, F.kp, F.bindsN fun _ _ _ _ _ _ us hl => match us, hl with | [_, _], _ => rfl⟩
  refine F.ok sc_law_take (fun vs H Q E h => ?_) (fun cdv A outer s H vs Q E hr h => ?_)
  · obtain ⟨b, us, G, fu, ds, P', rfl, gh, gb, bi, r, q, _⟩ := h
    rw [List.length_cons, r.len, wTake_len ds fu P' q]
    rfl
  · obtain ⟨b, us, G, fu, ds, P', rfl, gh, gb, bi, r, q, kk⟩ := h
    obtain ⟨m, ⟨m0, m1, f1⟩, rfl, q⟩ := q
    cases r with
    | cons r1 r2 =>
    cases r2
    cases r1
    obtain ⟨x, y, t, hb, hy, ht, htf⟩ := bi b rfl
    have nd := sc_law_take.nd
    have pP : (0 : Int) < 2305843009213693951 := by decide
    refine ⟨_, PSs.nox (pss_cons (ps_if (pt_cmpR op_gt (pe_ix ix_list (pv 0) pe_int (fun _ _ => rfl)) pe_int (nomark _))
        (pss_cons (ps_set (i := 2) nd rfl (.inl rfl) (pe_op op_mod (pe_ix ix_list (pv 0) pe_int (fun _ _ => rfl)) (pv 1)))
        (pss_cons (ps_asg (pe_op op_fdiv (pe_ix ix_list (pv 0) pe_int (fun _ _ => rfl)) (pv 1)) (pg_sub (pv 0) pe_int set_list))
        (pss_one (ps_ret (pv 2))))) pss_nil)
      (pss_cons (ps_asg (pe_op op_add (pe_ix ix_list (pv 0) pe_int (fun _ _ => rfl)) pe_int) (pg_sub (pv 0) pe_int set_list))
      (pss_cons (ps_set (i := 3) nd rfl (.inl rfl) pe_int)
      (pss_cons (ps_set (i := 4) nd rfl (.inl rfl) (pe_op op_mod (pe_op op_add (pe_ix ix_list (pv 0) pe_int (fun _ _ => rfl)) (pe_op op_mul pe_int (pe_ix ix_list (pv 0) pe_int (fun _ _ => rfl)))) (pv 3)))
      (pss_cons (ps_set (i := 4) nd rfl (.inl rfl) (pe_op op_mod (pe_op op_add (pe_op op_add (pe_op op_mul (pv 4) (pv 4)) (pe_op op_mul pe_int (pe_op op_pow (pe_ix ix_list (pv 0) pe_int (fun _ _ => rfl)) pe_int))) pe_int) (pv 3)))
      (pss_one (ps_ret (pe_op op_mod (pe_op op_fdiv (pe_op op_mod (pe_op op_pow (pv 4) pe_int) (pv 3)) pe_int) (pv 1))))))))), ?_⟩
    have hne : ∀ {o : HO}, Go (some b) G H G (upd H b o) := fun {o} => ⟨Same.refl G, fun a u e => by rw [upd_ne (fun z => by rw [z, gb] at e; cases e)]; exact gh a u e, fun a u n _ e => by rw [upd_ne (fun z => n (by rw [z]))]; exact e, fun a e => by
      by_cases h : a = b
      · rw [h, upd_same]
        exact Option.some_ne_none _
      · rw [upd_ne h]
        exact e, fun _ _ e => .inl e, fun x t => tabS_mut t (.inr ⟨_, hb⟩)⟩
    refine ⟨_, rfl, _, _, _, _, rfl, rfl, SqL.of hb, atI_nat (j := 0) rfl, _, _, rfl, rfl, _, rfl, ?_⟩
    refine ite2 (fun e => ?_) (fun e => ?_)
    · refine ⟨_, rfl, _, _, _, _, rfl, rfl, SqL.of hb, atI_nat (j := 0) rfl, _, rfl, _, _, rfl, rfl, m0, ?_⟩
      refine ⟨_, rfl, _, _, _, _, rfl, rfl, SqL.of hb, atI_nat (j := 0) rfl, _, rfl, _, _, rfl, rfl, ⟨m0, m1⟩, ?_⟩
      refine ⟨_, rfl, b, _, _, 0, rfl, rfl, hb, rfl, ?_⟩
      refine ⟨_, rfl, kk _ _ (fu - 1) G _ hne (fun c ec => ?_) (.int _) (q _ (Int.emod_nonneg x (by omega)) (Int.emod_lt_of_pos x m0))⟩
      cases ec
      exact ⟨_, y, t, upd_same, hy, ht, by omega⟩
    · refine ⟨_, rfl, _, _, _, _, rfl, rfl, SqL.of hb, atI_nat (j := 2) rfl, _, _, rfl, rfl, _, rfl, b, _, _, 2, rfl, rfl, hb, rfl, ?_⟩
      have hb2 : (upd H b (.lst [.int x, .int y, .int (t + 1)])) b = some (.lst [.int x, .int y, .int (t + 1)]) := upd_same
      refine ⟨_, rfl, _, _, _, _, rfl, rfl, SqL.of hb2, atI_nat (j := 1) rfl, _, rfl, _, _, _, _, rfl, rfl, SqL.of hb2, atI_nat (j := 2) rfl, _, _, rfl, rfl, .inl ⟨by decide, by decide⟩, _, _, rfl, rfl, _, rfl, _, _, rfl, rfl, pP, ?_⟩
      have n0 := Int.emod_nonneg (y + 1000003 * (t + 1)) (show (2305843009213693951 : Int) ≠ 0 by decide)
      have n1 := Int.emod_lt_of_pos (y + 1000003 * (t + 1)) (show (0 : Int) < 2305843009213693951 by decide)
      refine ⟨_, rfl, _, rfl, _, _, rfl, rfl, .inl ⟨by omega, by omega⟩, _, rfl, _, _, _, _, rfl, rfl, SqL.of hb2, atI_nat (j := 2) rfl, _, _, rfl, rfl, ⟨by decide, by decide, by omega⟩, _, _, rfl, rfl, .inl ⟨by decide, by decide⟩, _, _, rfl, rfl, _, _, rfl, rfl, _, rfl, _, _, rfl, rfl, pP, ?_⟩
      generalize hz : ((y + 1000003 * (t + 1)) % 2305843009213693951 * ((y + 1000003 * (t + 1)) % 2305843009213693951) + 7919 * (t + 1) ^ (2 : Int).toNat + 5) = z
      have z0 := Int.emod_nonneg z (show (2305843009213693951 : Int) ≠ 0 by decide)
      have z1 := Int.emod_lt_of_pos z (show (0 : Int) < 2305843009213693951 by decide)
      refine ⟨_, rfl, _, _, rfl, rfl, ⟨by decide, by decide, by omega⟩, _, rfl, _, _, rfl, rfl, pP, _, _, rfl, rfl, ⟨by decide, by decide⟩, _, rfl, _, _, rfl, rfl, m0, ?_⟩
      refine kk _ _ (fu - 1) G _ hne (fun c ec => ?_) (.int _) (q _ (Int.emod_nonneg _ (by omega)) (Int.emod_lt_of_pos _ m0))
      cases ec
      exact ⟨x, y, t + 1, upd_same, hy, by omega, by omega⟩

abbrev s_law_bags : Stmt := topS 28
theorem sc_law_bags : FnScope ["script", "most", "k", "cell"] ["script", "most"] (defScope s_law_bags) := ⟨rfl, rfl, rfl, by decide +kernel, rfl, by decide +kernel, by decide +kernel⟩
theorem fn_law_bags {f : Addr} {fd : FuncData} (F : FunD K "_law_bags" "_law_bags" (defArgs s_law_bags) (defBody s_law_bags) (defScope s_law_bags) [] [] f fd) (gm : mg "_law_bags" = some (.ref f)) (m_enumerate : mg "enumerate" = none) (c__law_well : Fn P w K mg base "_law_well" 1 ["cell", "turn"] (spN K wWell)) :
    Fn P w K mg base "_law_bags" 2 ["script", "most"] (spBags K) := by
  obtain ⟨fW, fdW, FW, gW, kW, bW⟩ := c__law_well.ex
  refine ⟨f, fd, ?_, gm, F.kp, F.bindsN fun _ _ _ _ _ _ us hl => match us, hl with | [_, _], _ => rfl⟩
  refine F.ok sc_law_bags (fun vs H Q E h => ?_) (fun cdv A outer s H vs Q E hr h => ?_)
  · obtain ⟨a, ns, k, rfl, _⟩ := h
    rfl
  · obtain ⟨a, ns, k, rfl, hS, hns, hk, q⟩ := h
    have nd := sc_law_bags.nd
    refine ⟨_, PSs.nox (pss_one (ps_ret (pe_lc (own := [("k", 2), ("cell", 3)]) (g := gTup K 2 (gCons (gName 2) (gCons (gName 3) gNil))) (tt := tYes) rfl nd (pi_enum (by rfl) m_enumerate (pa_cons (pe_op op_cat (pe_slice sl_list (pv 0) po_none (po_some (pv 1))) (pe_lst (pa_cons pe_int pa_nil))) pa_nil)) (blkOk_by (N := ["script", "most", "k", "cell"]) (sc := defScope s_law_bags) (by decide +kernel))
      (fun _ _ _ _ _ => by exact pg_tup rfl (pgs_cons (pg_name (i := 2) nd rfl (Or.inl rfl)) (pgs_cons (pg_name (i := 3) nd rfl (Or.inl rfl)) pgs_nil))) (fun _ _ _ _ _ => pts_nil)
      (fun _ _ _ _ _ => by exact pe_call FW hr (by rfl) gW kW bW .nil pass0 (pa_cons (pv 3) (pa_cons (pe_op op_mul pe_int (pv 2)) pa_nil)))))), ?_⟩
    -- script[:most] + [0]
    refine ⟨.ref a, rfl, .int k, rfl, k, rfl, a, ns.map V.int, rfl, hS, fun c nc => ?_⟩
    refine ⟨by show 1 ≤ sizeLine; decide, fun z nz => ?_⟩
    have ncz : c ≠ z := fun e => by
      rw [← e, upd_same] at nz
      cases nz
    obtain ⟨cs, hcs, hcl⟩ : ∃ cs : List Int, cutV (ns.map V.int) none (some k) = cs.map V.int ∧ cs.length ≤ 63 := by
      refine ⟨(ns.drop (HT.sIx ns.length 0 none)).take (HT.sIx ns.length ns.length (some k) - HT.sIx ns.length 0 none), ?_, ?_⟩
      · unfold cutV
        rw [List.length_map, ← List.map_drop, ← List.map_take]
      · rw [List.length_take, List.length_drop]
        omega
    rw [hcs] at nz ⊢
    refine ⟨c, z, cs.map V.int, [.int 0], rfl, rfl, by rw [upd_ne ncz, upd_same], upd_same, by rw [List.length_map, sizeLine_eq]; simp; omega, fun e ne => ?_⟩
    have eL : cs.map V.int ++ [V.int 0] = (cs ++ [0]).map V.int := by
      rw [List.map_append]
      rfl
    rw [eL]
    generalize hds : cs ++ [0] = dl
    have hdl : dl.length ≤ 64 := by
      rw [← hds, List.length_append, List.length_singleton]
      omega
    generalize hH2 : upd (upd (upd H c (.lst (cs.map V.int))) z (.lst [.int 0])) e (.lst (dl.map V.int)) = H2
    have hs2 : Same H H2 := by
      rw [← hH2]
      exact ((same_new nc).trans (same_new nz)).trans (same_new ne)
    have he2 : H2 e = some (.lst (dl.map V.int)) := by
      rw [← hH2]
      exact upd_same
    refine ⟨e, dl.map V.int, rfl, SqL.of he2, fun D nD => ?_⟩
    have nDe : D ≠ e := fun z => by
      rw [z, he2] at nD
      cases nD
    have nDH : H D = none := same_none hs2 nD
    refine lc_it (walk_enum (K := K) (a := e) (xs := dl.map V.int)) (fun i H' => ∃ bs : List Addr, H' D = some (.lst (bs.map V.ref)) ∧ bs.length = i ∧ bs.Nodup ∧ Same H2 H' ∧ ∀ b ∈ bs, b ≠ D ∧ H2 b = none ∧ BagAt b H') ⟨[], upd_same, rfl, List.nodup_nil, same_new nD, (fun b hb => by cases hb)⟩ (fun i H' _ h => ?_) (fun i x H' H3 hi h y => ?_) (fun H' h => ?_)
    · obtain ⟨_, _, _, _, s, _⟩ := h
      exact SqL.of (s _ _ he2)
    · obtain ⟨bs, h1, h2, h3, h4, h5⟩ := h
      obtain ⟨T, x1, x2, rfl, nT, rfl, e1, e2⟩ := y
      cases e1
      have e2 : (dl.map V.int)[i]? = some x2 := e2
      rw [List.getElem?_map] at e2
      obtain ⟨cv, hcv⟩ : ∃ cv, dl[i]? = some cv := ⟨_, List.getElem?_eq_getElem (by rw [List.length_map] at hi; exact hi)⟩
      rw [hcv] at e2
      cases e2
      have hT := same_new (o := HO.tup [.int (i : Nat), .int cv]) nT
      refine ⟨T, [.int (i : Nat), .int cv], rfl, .inl (.inl upd_same), rfl, _, _, rfl, _, _, rfl, rfl, rfl, ?_⟩
      refine ⟨_, rfl, _, rfl, _, _, rfl, rfl, .inl ⟨by decide, by decide⟩, _, [.int cv, .int (977 * (i : Nat))], fun es => ∃ x y : Int, (0 ≤ y ∧ y < 2305843009213693951) ∧ es = [.int x, .int y, .int (977 * (i : Nat))], Same.refl _, .cons (.int _) (.cons (.int _) .nil), ⟨cv, 977 * (i : Nat), by omega, rfl, fun x y y0 y1 => ⟨x, y, ⟨y0, y1⟩, rfl⟩⟩, ?_⟩
      rintro p us es G' H4 g hp gp hv r ⟨x, y, hy, rfl⟩
      have hr' := r.ints (ns := [x, y, 977 * (i : Nat)])
      rw [hr'] at hv
      have s4 : Same H' H4 := hT.trans (g.gg.trans g.gh)
      have hD4 := s4 _ _ h1
      have hpD : p ≠ D := fun z => by
        rw [z] at hp
        rw [hT _ _ h1] at hp
        cases hp
      have hp' : H' p = none := same_none hT hp
      have hp2 : H2 p = none := same_none h4 hp'
      refine ⟨_, hD4, by rw [List.length_map, h2, sizeLine_eq]; rw [List.length_map] at hi; omega, bs ++ [p], ?_, by rw [List.length_append, h2]; rfl, ?_, ?_, ?_⟩
      · rw [upd_same, List.map_append]
        rfl
      · rw [List.nodup_append]
        refine ⟨h3, by simp, fun b hb c hc z => ?_⟩
        rw [List.mem_singleton] at hc
        subst hc
        subst z
        obtain ⟨_, _, x0, y0, t0, hB, _⟩ := h5 b hb
        rw [hp'] at hB
        cases hB
      · intro b o hb
        rw [upd_ne (fun z => by rw [z, nD] at hb; cases hb)]
        exact s4 _ _ (h4 _ _ hb)
      · intro b hb
        rcases List.mem_append.mp hb with hb | hb
        · obtain ⟨m1, m2, x0, y0, t0, hB, m3⟩ := h5 b hb
          exact ⟨m1, m2, x0, y0, t0, by rw [upd_ne m1]; exact s4 _ _ hB, m3⟩
        · rw [List.mem_singleton] at hb
          subst hb
          refine ⟨hpD, hp2, x, y, 977 * (i : Nat), by rw [upd_ne hpD]; exact hv, hy, by omega, ?_⟩
          rw [List.length_map] at hi
          omega
    · obtain ⟨bs, h1, h2, h3, h4, h5⟩ := h
      exact q D bs H' (hs2.trans h4) nDH h1 h3 (fun b hb => ⟨(h5 b hb).1, same_none hs2 (h5 b hb).2.1, (h5 b hb).2.2⟩)

abbrev s_law_same : Stmt := topS 29
theorem sc_law_same : FnScope ["a", "b", "x", "y"] ["a", "b"] (defScope s_law_same) := ⟨rfl, rfl, rfl, by decide +kernel, rfl, by decide +kernel, by decide +kernel⟩
theorem fn_law_same_step {f : Addr} {fd : FuncData} (F : FunD K "_law_same" "_law_same" (defArgs s_law_same) (defBody s_law_same) (defScope s_law_same) [] [] f fd) (gm : mg "_law_same" = some (.ref f)) (m_isinstance : mg "isinstance" = none) (m_tuple : mg "tuple" = none) (m_list : mg "list" = none) (m_all : mg "all" = none) (m_zip : mg "zip" = none) (m_len : mg "len" = none) (m_bool : mg "bool" = none) (m_int : mg "int" = none) (m_str : mg "str" = none) {k n : Nat} (c__law_same : Fn P w K mg base "_law_same" k ["a", "b"] (spP K (wSame n))) :
    Fn P w K mg base "_law_same" (k + 1) ["a", "b"] (spP K (wSame (n + 1))) :=
  fnP_mk (st := s_law_same) (N := ["a", "b", "x", "y"]) F sc_law_same gm (F.bindsN fun _ _ _ _ _ _ us hl => match us, hl with | [_, _], _ => rfl) wSame_len (by decide) fun cdv A outer s H E hr => by
    have sc := sc_law_same
    refine ⟨_, _, (xss_cons (xs_if (XW.t (xw_or (XW.t (xw_and (xt_val (xe_isi (T := "list") (xe_var 0) isi_list (by rfl) m_isinstance (by rfl) m_list (by decide +kernel) (by decide +kernel))) (xw_and1 (xt_val (xe_isi (T := "list") (xe_var 1) isi_list (by rfl) m_isinstance (by rfl) m_list (by decide +kernel) (by decide +kernel)))))) (xw_or1 (XW.t (xw_and (xt_val (xe_isi (T := "tuple") (xe_var 0) isi_tuple (by rfl) m_isinstance (by rfl) m_tuple (by decide +kernel) (by decide +kernel))) (xw_and1 (xt_val (xe_isi (T := "tuple") (xe_var 1) isi_tuple (by rfl) m_isinstance (by rfl) m_tuple (by decide +kernel) (by decide +kernel))))))))) (xss_one (xs_ret (xe_and (xe_cmp op_eq sim_eqS (xe_callB call_len_seq sim_len (by rfl) m_len (by decide +kernel) (xa_cons (xe_var 0) xa_nil)) (xe_callB call_len_seq sim_len (by rfl) m_len (by decide +kernel) (xa_cons (xe_var 1) xa_nil)) (nomark _)) (xe_one (xe_callB (cr_all rfl) sim_all (by rfl) m_all (by decide +kernel) (xa_cons (XN.ev (xn_lc (own := [("x", 2), ("y", 3)]) (tg := .t [2, 3]) sc.nd (xi_zipA (xa_cons (xe_var 0) (xa_cons (xe_var 1) xa_nil)) (by rfl) m_zip) (blkOk_by (N := ["a", "b", "x", "y"]) (sc := defScope s_law_same) (by decide +kernel)) (fun _ _ _ _ _ => (xg_tup (xgs_cons (xg_name 2 sc.nd) (xgs_cons (xg_name 3 sc.nd) xgs_nil)))) (fun _ _ _ _ _ => ⟨_, by exact xts_nil⟩) (fun _ _ _ _ _ => ⟨_, by exact (xe_call c__law_same hr (by rfl) (xa_cons (xe_var 2) (xa_cons (xe_var 3) xa_nil)) (hk := Nat.le_refl _))⟩))) xa_nil)))))) xss_nil)
    (xss_cons (xs_if (XW.t (xw_or (xt_val (xe_isiT (Ts := ["bool", "list", "tuple"]) (xe_var 0) (pa_ty (T := "bool") (by rfl) m_bool (by rfl) (pa_ty (T := "list") (by rfl) m_list (by rfl) (pa_ty (T := "tuple") (by rfl) m_tuple (by rfl) pa_nil))) isi_blt (by decide) (by rfl) m_isinstance (by rfl))) (xw_or1 (xt_val (xe_isiT (Ts := ["bool", "list", "tuple"]) (xe_var 1) (pa_ty (T := "bool") (by rfl) m_bool (by rfl) (pa_ty (T := "list") (by rfl) m_list (by rfl) (pa_ty (T := "tuple") (by rfl) m_tuple (by rfl) pa_nil))) isi_blt (by decide) (by rfl) m_isinstance (by rfl)))))) (xss_one (xs_ret (xe_and (xe_isi (T := "bool") (xe_var 0) isi_bool (by rfl) m_isinstance (by rfl) m_bool (by decide +kernel) (by decide +kernel)) (xe_and (xe_isi (T := "bool") (xe_var 1) isi_bool (by rfl) m_isinstance (by rfl) m_bool (by decide +kernel) (by decide +kernel)) (xe_one (xe_cmp op_eq sim_eqS (xe_var 0) (xe_var 1) (nomark _))))))) xss_nil)
    (xss_cons (xs_if (XW.t (xw_or (xt_val (xe_isi (T := "int") (xe_var 0) isi_int (by rfl) m_isinstance (by rfl) m_int (by decide +kernel) (by decide +kernel))) (xw_or1 (xt_val (xe_isi (T := "int") (xe_var 1) isi_int (by rfl) m_isinstance (by rfl) m_int (by decide +kernel) (by decide +kernel)))))) (xss_one (xs_ret (xe_and (xe_isi (T := "int") (xe_var 0) isi_int (by rfl) m_isinstance (by rfl) m_int (by decide +kernel) (by decide +kernel)) (xe_and (xe_isi (T := "int") (xe_var 1) isi_int (by rfl) m_isinstance (by rfl) m_int (by decide +kernel) (by decide +kernel)) (xe_one (xe_cmp op_eq sim_eqS (xe_var 0) (xe_var 1) (nomark _))))))) xss_nil)
    (xss_cons (xs_if (XW.t (xw_or (xt_val (xe_isi (T := "str") (xe_var 0) isi_str (by rfl) m_isinstance (by rfl) m_str (by decide +kernel) (by decide +kernel))) (xw_or1 (xt_val (xe_isi (T := "str") (xe_var 1) isi_str (by rfl) m_isinstance (by rfl) m_str (by decide +kernel) (by decide +kernel)))))) (xss_one (xs_ret (xe_and (xe_isi (T := "str") (xe_var 0) isi_str (by rfl) m_isinstance (by rfl) m_str (by decide +kernel) (by decide +kernel)) (xe_and (xe_isi (T := "str") (xe_var 1) isi_str (by rfl) m_isinstance (by rfl) m_str (by decide +kernel) (by decide +kernel)) (xe_one (xe_cmp op_eq sim_eqS (xe_var 0) (xe_var 1) (nomark _))))))) xss_nil)
    (xss_one (xs_ret (xe_and (xe_cmp op_isN sim_isN (xe_var 0) xe_none (by rfl)) (xe_one (xe_cmp op_isN sim_isN (xe_var 1) xe_none (by rfl)))))))))), ?_⟩
    rintro _ Q ⟨d, hd, rfl, q⟩
    rcases hd with hd | ⟨xs, hd, hl, hx⟩
    · cases d <;> first
        | (cases hd; done)
        | (walk_at "dd"
           simp (config := { decide := true }) only [isiD, tyN, List.any_cons, List.any_nil, if_true, if_false]
           exact q)
    · have fin : lcGo (Tg.t [2, 3]) dYes (dCall (wSame n) (dCons (dVar 2) (dCons (dVar 3) dNil))) [SV.d d, SV.d d, SV.u, SV.u] (zipD xs xs) [] 0 fun ds f' => ∃ bs : List Bool, ds = List.map PyData.bool bs ∧ Q (PyData.bool (bs.all id)) := by
        rw [zip_same]
        refine lcGo_of (fun x : PyData => .tuple [x, x]) (fun _ => .bool true) (fun x h f Q' q' => ?_) ⟨xs.map fun _ => true, by rw [List.map_map]; rfl, ?_⟩
        · exact ⟨x, hx x h, rfl, q'⟩
        · rw [List.all_map, show (xs.all (id ∘ fun _ => true)) = true from List.all_eq_true.mpr fun _ _ => rfl]
          exact q
      have hz : (zipD xs xs).length < 16777216 := by
        rw [zipD_len]
        omega
      rcases hd with rfl | rfl
      all_goals walk_at "dd"
      all_goals simp (config := { decide := true }) only [isiD, tyN, List.any_cons, List.any_nil, if_true, if_false]
      all_goals exact ⟨hz, fin⟩
theorem fn_law_same {f : Addr} {fd : FuncData} (F : FunD K "_law_same" "_law_same" (defArgs s_law_same) (defBody s_law_same) (defScope s_law_same) [] [] f fd) (gm : mg "_law_same" = some (.ref f)) (m_isinstance : mg "isinstance" = none) (m_tuple : mg "tuple" = none) (m_list : mg "list" = none) (m_all : mg "all" = none) (m_zip : mg "zip" = none) (m_len : mg "len" = none) (m_bool : mg "bool" = none) (m_int : mg "int" = none) (m_str : mg "str" = none) : Fn P w K mg base "_law_same" 5 ["a", "b"] (spP K (wSame 4)) := (fn_law_same_step F gm m_isinstance m_tuple m_list m_all m_zip m_len m_bool m_int m_str (fn_law_same_step F gm m_isinstance m_tuple m_list m_all m_zip m_len m_bool m_int m_str (fn_law_same_step F gm m_isinstance m_tuple m_list m_all m_zip m_len m_bool m_int m_str (fn_law_same_step F gm m_isinstance m_tuple m_list m_all m_zip m_len m_bool m_int m_str (Fn.none F sc_law_same gm (F.bindsN fun _ _ _ _ _ _ us hl => match us, hl with | [_, _], _ => rfl) wSame_zero)))))
abbrev s_law_error : Stmt := topS 30
theorem sc_law_error : FnScope ["e", "some", "words", "word", "good"] ["e"] (defScope s_law_error) := ⟨rfl, rfl, rfl, by decide +kernel, rfl, by decide +kernel, by decide +kernel⟩
theorem fn_law_error {f : Addr} {fd : FuncData} {ec : Nat → Addr} (F : FunD K "_law_error" "_law_error" (defArgs s_law_error) (defBody s_law_error) (defScope s_law_error) [] [] f fd) (ke : ErrC K mg ec) (m_isinstance : mg "isinstance" = none) (m_zip : mg "zip" = none) : ErrFn P w K mg base 4 f (ErrW ec) :=
  errFn_mk (st := s_law_error) (y := "e") (N := ["some", "words", "word", "good"]) F sc_law_error (F.bindsN fun _ _ _ _ _ _ us hl => match us, hl with | [_], _ => rfl) fun cdv A outer s H E p D wd hot hz hf hw => by
    have sc := sc_law_error
    obtain ⟨i, hi, rfl, hwd⟩ := hw
    have hp : p ∈ (L2H.cxH CX0 P w K mg base ["e", "some", "words", "word", "good"] "_law_error" (defScope s_law_error) f cdv A outer s H E p).pn := List.mem_singleton.mpr rfl
    refine ⟨_, _, (xss_cons (xs_set 1 sc.nd (XN.ev (xn_lst (xa_cons (xe_isE 0 hp (ke.c i hi) hz hf (ke.m 0 "InvalidRule" rfl) (ke.k i hi 0 (by decide)) (by rfl) (by rfl) m_isinstance) (xa_cons (xe_isE 0 hp (ke.c i hi) hz hf (ke.m 1 "InvalidLog" rfl) (ke.k i hi 1 (by decide)) (by rfl) (by rfl) m_isinstance) (xa_cons (xe_isE 0 hp (ke.c i hi) hz hf (ke.m 2 "InvalidDay" rfl) (ke.k i hi 2 (by decide)) (by rfl) (by rfl) m_isinstance) xa_nil))))))
    (xss_cons (xs_set 1 sc.nd (xe_op op_cat sim_catL (xe_var 1) (XN.ev (xn_lst (xa_cons (xe_isE 0 hp (ke.c i hi) hz hf (ke.m 3 "InvalidNumber" rfl) (ke.k i hi 3 (by decide)) (by rfl) (by rfl) m_isinstance) (xa_cons (xe_isE 0 hp (ke.c i hi) hz hf (ke.m 4 "InvalidSeen" rfl) (ke.k i hi 4 (by decide)) (by rfl) (by rfl) m_isinstance) (xa_cons (xe_isE 0 hp (ke.c i hi) hz hf (ke.m 5 "NothingToUndo" rfl) (ke.k i hi 5 (by decide)) (by rfl) (by rfl) m_isinstance) xa_nil)))))))
    (xss_cons (xs_set 2 sc.nd (XN.ev (xn_lst (xa_cons xe_str (xa_cons xe_str (xa_cons xe_str (xa_cons xe_str (xa_cons xe_str (xa_cons xe_str (xa_cons xe_str xa_nil))))))))))
    (xss_one (xs_ret (xe_join (XN.ev (xn_lcQ (own := [("word", 3), ("good", 4)]) (tg := .t [3, 4]) hot hp sc.nd (xa_cons (xe_var 2) (xa_cons (xe_op op_cat sim_catL (xe_var 1) (XN.ev (xn_lst (xa_cons (xe_isE 0 hp (ke.c i hi) hz hf (ke.m 6 "TooMany" rfl) (ke.k i hi 6 (by decide)) (by rfl) (by rfl) m_isinstance) xa_nil)))) xa_nil)) (by rfl) m_zip (blkOk_by (N := ["e", "some", "words", "word", "good"]) (sc := defScope s_law_error) (by decide +kernel)) (fun _ _ _ _ _ hB => (xg_tupQ hB (xgs_cons (xg_name 3 sc.nd) (xgs_cons (xg_name 4 sc.nd) xgs_nil)))) (fun _ _ _ _ _ => ⟨_, by exact (xts_one (xt_val (xe_var 4)))⟩) (fun _ _ _ _ _ => ⟨_, by exact (xe_var 3)⟩))))))))), ?_⟩
    have h7 : i = 0 ∨ i = 1 ∨ i = 2 ∨ i = 3 ∨ i = 4 ∨ i = 5 ∨ i = 6 := by omega
    walk_at "dd"
    unfold dJoin
    rcases h7 with rfl | rfl | rfl | rfl | rfl | rfl | rfl
    all_goals
      cases hwd
      refine ⟨rfl, rfl, rfl, rfl, rfl, rfl, by decide, ?_⟩
      walk_at "dd"
      unfold iZpQ
      walk_at "dd"
      refine ⟨rfl, by decide, trivial, by decide, ?_⟩
      exact ⟨[_], rfl, by decide, rfl⟩

abbrev s_law_outcome : Stmt := topS 31
theorem sc_law_outcome : FnScope ["call", "found", "e"] ["call"] (defScope s_law_outcome) := ⟨rfl, rfl, rfl, by decide +kernel, rfl, by decide +kernel, by decide +kernel⟩
theorem fn_law_outcome {f fe ct : Addr} {fd : FuncData} {ec : Nat → Addr} (F : FunD K "_law_outcome" "_law_outcome" (defArgs s_law_outcome) (defBody s_law_outcome) (defScope s_law_outcome) [] [] f fd) (gm : mg "_law_outcome" = some (.ref f)) (ce : ErrFn P w K mg base 4 fe (ErrW ec)) (me : mg "_law_error" = some (.ref fe)) (kpe : PySem.W.keepIn K (.ref fe) = true) (gt : mg "TaskError" = some (.ref ct)) (hx : ∀ i, i < 7 → PySem.W.exmOne K (.ref (ec i)) (.ref ct) = some true) : OutC P w K mg base 8 7 (ErrW ec) :=
  ⟨f, outF_mk (st := s_law_outcome) (k := 7) (kt := 7) F sc_law_outcome (F.bindsN fun _ _ _ _ _ _ us hl => match us, hl with | [_], _ => rfl) (fun cdv A outer s H g r hr T =>
    out_body rfl rfl rfl rfl T hr ce ((L2H.roomH_of hr).mono (by decide)) rfl rfl rfl rfl rfl gt me kpe fun D wd ⟨i, hi, e, _⟩ => by rw [e]; exact hx i hi), gm, F.kp⟩

abbrev s_law_play : Stmt := topS 32
theorem sc_law_play : FnScope ["rule", "log", "kind", "every", "start", "rows", "due", "day"] ["rule", "log"] (defScope s_law_play) := ⟨rfl, rfl, rfl, by decide +kernel, rfl, by decide +kernel, by decide +kernel⟩
theorem fn_law_play {f : Addr} {fd : FuncData} (F : FunD K "_law_play" "_law_play" (defArgs s_law_play) (defBody s_law_play) (defScope s_law_play) [] [] f fd) (gm : mg "_law_play" = some (.ref f))  :
    Fn P w K mg base "_law_play" 1 ["rule", "log"] (spP K wPlayed) :=
  fnP_mk (st := s_law_play) (N := ["rule", "log", "kind", "every", "start", "rows", "due", "day"]) F sc_law_play gm (F.bindsN fun _ _ _ _ _ _ us hl => match us, hl with | [_, _], _ => rfl) (wF_len fun _ => rfl) (by decide) fun cdv A outer s H E hr => by
    have sc := sc_law_play
    refine ⟨_, _, (xss_cons (xs_tg (tg := .t [2, 3, 4]) (xe_var 0) (xg_tup (xgs_cons (xg_name 2 sc.nd) (xgs_cons (xg_name 3 sc.nd) (xgs_cons (xg_name 4 sc.nd) xgs_nil)))))
    (xss_cons (xs_parLD (xn_lst xa_nil) (xe_var 4) (ps_two 5 6 sc.nd))
    (xss_cons (xs_forI (tg := .n 7) PassesOwn.never (xi_seq (xe_var 1)) (xg_name 7 sc.nd) (xss_one (xs_if (xt_cmp op_le sim_le (xe_var 6) (xe_var 7) (nomark _)) (xss_cons (xs_app 5 (xe_tup (xa_cons (xe_var 7) (xa_cons (xe_var 6) xa_nil))) (fun h => pe_bm PySem.F.plainAttrs_list PySem.F.slot_list_append PySem.F.type_list_append mt_append (pv 5) (pa_cons h pa_nil)))
    (xss_one (xs_if (xt_cmp op_eq sim_eqS (xe_var 2) xe_str (nomark _)) (xss_one (xs_set 6 sc.nd (xe_op op_add sim_add (xe_var 7) (xe_var 3)))) (xss_one (xs_if (xt_cmp op_eq sim_eqS (xe_var 2) xe_str (nomark _)) (xss_one (xs_set 6 sc.nd (xe_op op_add sim_add (xe_var 6) (xe_var 3)))) (xss_one (xs_while PassesOwn.never (xt_cmp op_le sim_le (xe_var 6) (xe_var 7) (nomark _)) (xss_one (xs_set 6 sc.nd (xe_op op_add sim_add (xe_var 6) (xe_var 3))))))))))) xss_nil)))
    (xss_one (xs_ret (xe_tup (xa_cons (xe_var 5) (xa_cons (xe_var 6) xa_nil)))))))), ?_⟩
    rintro _ Q ⟨⟨r, ns⟩, ok, rfl, q⟩
    obtain ⟨he, hl⟩ := ok
    simp only [] at he hl
    refine seqK fun k hk => ?_
    walk_at "dd"
    refine hk _ _ ?_
    clear hk k
    refine seqK fun k hk => ?_
    walk_at "dd"
    refine hk _ _ ?_
    clear hk k
    refine seqK fun k hk => ?_
    refine forK fun R hR => ?_
    walk_at "dd"
    refine hR _ _ (fun xs ρ f => ∃ (ms : List Int) (u : Int) (acc : List (Int × Int)) (x : SV), xs = intsD ms ∧ ρ = [.d (ruleD r), .d (logD ns), .d (.str r.kd.s), .d (.int r.ev), .d (.int r.st), .l (rowsD acc), .d (.int u), x] ∧ On r u ∧ acc ++ (pl r ms u).1 = rows r ns ∧ (pl r ms u).2 = due r ns)
      ⟨ns, r.st, [], _, rfl, rfl, on_st r, rfl, rfl⟩ ?_ ?_
    · clear hR R
      rintro x xs ρ f ⟨ms, u, acc, y, hx, rfl, ou, h1, h2⟩
      cases ms with
      | nil => cases hx
      | cons m ms =>
        cases hx
        walk_at "ss"
        refine ifK fun kt kf ht hf => ?_
        walk_at "dd"
        unfold pl at h1 h2
        by_cases h : u ≤ m
        · rw [if_pos h] at h1 h2 ⊢
          refine ht _ ?_
          clear ht hf
          refine seqK fun k hk => ?_
          walk_at "dd"
          have hl : (rowsD acc).length < 16777216 := by
            have h3 := rows_len r ns
            rw [← h1, List.length_append] at h3
            unfold rowsD
            rw [List.length_map]
            omega
          refine ⟨hl, hk _ _ ?_⟩
          clear hk k
          have fin : ∀ f : Nat, ∃ (ms' : List Int) (u' : Int) (acc' : List (Int × Int)) (x : SV), intsD ms = intsD ms' ∧ ([.d (ruleD r), .d (logD ns), .d (.str r.kd.s), .d (.int r.ev), .d (.int r.st), .l (rowsD acc ++ [.tuple [.int m, .int u]]), .d (.int (nxt r u m)), .d (.int m)] : Rho) = [.d (ruleD r), .d (logD ns), .d (.str r.kd.s), .d (.int r.ev), .d (.int r.st), .l (rowsD acc'), .d (.int u'), x] ∧ On r u' ∧ acc' ++ (pl r ms' u').1 = rows r ns ∧ (pl r ms' u').2 = due r ns :=
            fun _ => ⟨ms, nxt r u m, acc ++ [(m, u)], .d (.int m), rfl, by unfold rowsD; rw [List.map_append]; rfl, nxt_on ou, by rw [List.append_assoc]; exact h1, h2⟩
          refine ifK fun kt kf ht hf => ?_
          walk_at "dd"
          rcases kd_or r with hkd | hkd | hkd
          · rw [show nxt r u m = m + r.ev by unfold nxt; rw [hkd]] at fin
            rw [if_pos (show r.kd.s = ("after" : Str) by rw [hkd]; rfl)]
            exact ht _ (by walk_at "dd"; exact fin 0)
          · rw [if_neg (show ¬ r.kd.s = ("after" : Str) by rw [hkd]; decide +kernel)]
            refine hf _ ?_
            clear ht hf
            refine ifK fun kt kf ht hf => ?_
            walk_at "dd"
            rw [if_neg (show ¬ r.kd.s = ("pile" : Str) by rw [hkd]; decide +kernel)]
            refine hf _ ?_
            clear ht hf
            refine ⟨fun n ρ f => ∃ v : Int, On r v ∧ v ≤ m + r.ev ∧ n = (m + r.ev - v).toNat ∧ ρ = [.d (ruleD r), .d (logD ns), .d (.str r.kd.s), .d (.int r.ev), .d (.int r.st), .l (rowsD acc ++ [.tuple [.int m, .int u]]), .d (.int v), .d (.int m)], ⟨_, u, ou, by omega, rfl, rfl⟩, ?_⟩
            rintro n ρ f ⟨v, ov, hv, rfl, rfl⟩
            walk_at "dd"
            by_cases c : v ≤ m
            · rw [if_pos c]
              refine ⟨_, ?_, v + r.ev, fun hf => ?_, by omega, rfl, rfl⟩
              · omega
              · have := Int.dvd_add (ov hf) (Int.dvd_refl r.ev)
                rwa [show v - r.st + r.ev = v + r.ev - r.st by omega] at this
            · rw [if_neg c]
              rw [nxt_walk r he hkd (u := u) ov (by omega) hv]
              exact fin 0
          · rw [show nxt r u m = u + r.ev by unfold nxt; rw [hkd]] at fin
            rw [if_neg (show ¬ r.kd.s = ("after" : Str) by rw [hkd]; decide +kernel)]
            refine hf _ ?_
            clear ht hf
            refine ifK fun kt kf ht hf => ?_
            walk_at "dd"
            rw [if_pos (show r.kd.s = ("pile" : Str) by rw [hkd]; rfl)]
            exact ht _ (by walk_at "dd"; exact fin 0)
        · rw [if_neg h] at h1 h2 ⊢
          refine hf _ ?_
          exact ⟨ms, u, acc, _, rfl, rfl, ou, h1, h2⟩
    · rintro ρ f ⟨ms, u, acc, y, hx, rfl, ou, h1, h2⟩
      cases ms with
      | cons m ms => cases hx
      | nil =>
        refine hk _ _ ?_
        walk_at "dd"
        unfold pl at h1 h2
        rw [List.append_nil] at h1
        rw [h1, show u = due r ns from h2]
        exact q
abbrev s_law_done : Stmt := topS 33
theorem sc_law_done : FnScope ["rule", "log", "day", "due"] ["rule", "log"] (defScope s_law_done) := ⟨rfl, rfl, rfl, by decide +kernel, rfl, by decide +kernel, by decide +kernel⟩
theorem fn_law_done {f : Addr} {fd : FuncData} (F : FunD K "_law_done" "_law_done" (defArgs s_law_done) (defBody s_law_done) (defScope s_law_done) [] [] f fd) (gm : mg "_law_done" = some (.ref f)) (c__law_play : Fn P w K mg base "_law_play" 1 ["rule", "log"] (spP K wPlayed)) :
    Fn P w K mg base "_law_done" 3 ["rule", "log"] (spN K wLDone) :=
  fnN_mk (st := s_law_done) (N := ["rule", "log", "day", "due"]) F sc_law_done gm (F.bindsN fun _ _ _ _ _ _ us hl => match us, hl with | [_, _], _ => rfl) (wN_len fun _ => rfl) (by decide) fun cdv A outer s H E hr => by
    have sc := sc_law_done
    refine ⟨_, _, (xss_one (xs_retN (xn_lc (own := [("day", 2), ("due", 3)]) (tg := .t [2, 3]) sc.nd (xi_list (xe_ix (xe_call c__law_play hr (by rfl) (xa_cons (xe_var 0) (xa_cons (xe_var 1) xa_nil))) xe_int)) (blkOk_by (N := ["rule", "log", "day", "due"]) (sc := defScope s_law_done) (by decide +kernel)) (fun _ _ _ _ _ => (xg_tup (xgs_cons (xg_name 2 sc.nd) (xgs_cons (xg_name 3 sc.nd) xgs_nil)))) (fun _ _ _ _ _ => ⟨_, by exact xts_nil⟩) (fun _ _ _ _ _ => ⟨_, by exact (xe_var 2)⟩)))), ?_⟩
    rintro _ Q ⟨⟨r, ns⟩, ok, rfl, q⟩
    obtain ⟨he, hl⟩ := ok
    simp only [] at he hl
    walk_at "dd"
    refine ⟨(r, ns), ⟨he, hl⟩, rfl, ?_⟩
    walk_at "dd"
    have h1 := rows_len r ns
    refine ⟨by unfold rowsD; rw [List.length_map]; omega, lcGo_of rowD (fun x => .int x.1) (fun x hx => ?_) ?_⟩
    · intro f Q' h
      exact h
    · rw [List.nil_append, show (rows r ns).map (fun x => PyData.int x.1) = intsD (done r ns) by unfold intsD done; rw [List.map_map]; rfl]
      exact q
abbrev s_law_all : Stmt := topS 34
theorem sc_law_all : FnScope ["days", "found", "day", "row"] ["days"] (defScope s_law_all) := ⟨rfl, rfl, rfl, by decide +kernel, rfl, by decide +kernel, by decide +kernel⟩
theorem fn_law_all {f : Addr} {fd : FuncData} (F : FunD K "_law_all" "_law_all" (defArgs s_law_all) (defBody s_law_all) (defScope s_law_all) [] [] f fd) (gm : mg "_law_all" = some (.ref f)) (m_range : mg "range" = none) (m_sorted : mg "sorted" = none) :
    Fn P w K mg base "_law_all" 2 ["days"] (spN K wLawAll) :=
  fnN_mk (st := s_law_all) (N := ["days", "found", "day", "row"]) F sc_law_all gm (F.bindsN fun _ _ _ _ _ _ us hl => match us, hl with | [_], _ => rfl) (wN_len fun _ => rfl) (by decide) fun cdv A outer s H E hr => by
    have sc := sc_law_all
    refine ⟨_, _, (xss_cons (xs_set 1 sc.nd (XN.ev (xn_lst (xa_cons (xe_tup xa_nil) xa_nil))))
    (xss_cons (xs_forI (tg := .n 2) PassesOwn.never (xi_range1 (xa_cons (xe_var 0) xa_nil) (by rfl) m_range) (xg_name 2 sc.nd) (xss_one (xs_set 1 sc.nd (xe_op op_cat sim_catL (xe_var 1) (XN.ev (xn_lc (own := [("row", 3)]) (tg := .n 3) sc.nd (xi_seq (xe_var 1)) (blkOk_by (N := ["days", "found", "day", "row"]) (sc := defScope s_law_all) (by decide +kernel)) (fun _ _ _ _ _ => (xg_name 3 sc.nd)) (fun _ _ _ _ _ => ⟨_, by exact xts_nil⟩) (fun _ _ _ _ _ => ⟨_, by exact (xe_op op_catA sim_catT (xe_var 3) (xe_tup (xa_cons (xe_var 2) xa_nil)))⟩)))))))
    (xss_one (xs_retN (xn_callB (cr_sortZ hr.units) sim_sortZ (by rfl) m_sorted (by decide +kernel) (xa_cons (xe_var 1) xa_nil)))))), ?_⟩
    rintro _ Q ⟨n, hn14, rfl, q⟩
    have q : Q ((srt n).map tupI) := q
    refine seqK fun k hk => ?_
    walk_at "dd"
    refine hk _ _ ?_
    clear hk k
    refine seqK fun k hk => ?_
    refine forK fun R hR => ?_
    walk_at "dd"
    refine ⟨⟨by omega, by omega⟩, ?_⟩
    refine hR _ _ (fun xs ρ f => ∃ (j : Nat) (z4 : SV), xs = (rangeD 0 n).drop j ∧ j ≤ n ∧ ρ = [.d (.int n), .d (.list ((subs j).map tupI)), z4, .u]) ⟨0, _, rfl, Nat.zero_le _, rfl⟩ ?_ ?_
    · clear hR R
      rintro x xs ρ f ⟨j, z4, hx, hj, rfl⟩
      obtain ⟨h1, rfl, rfl⟩ := range_step hx
      walk_at "ss"
      walk_at "dd"
      have hp := pow14 (n := j) (by omega)
      have hsl := subs_len j
      refine ⟨by rw [List.length_map]; omega, lcGo_of tupI (fun row => tupI (row ++ [(j : Int)])) (fun row hrow f Q' h => ?_) ?_⟩
      · show dOp rCatTd (dVar 3) (dTup (dCons (dVar 2) dNil)) _ f Q'
        have h80 := (subs_row j row hrow).1
        walk_at "dd"
        rw [Int.zero_add]
        refine ⟨by rw [List.length_map]; show row.length + 1 ≤ 16777216; omega, ?_⟩
        rw [tup_snoc]
        exact h
      · rw [List.nil_append]
        refine ⟨by rw [List.length_map, List.length_map]; omega, j + 1, .d (.int (0 + (j : Int))), rfl, h1, ?_⟩
        rw [tups_succ]
    · rintro ρ f ⟨j, z4, hx, hj, rfl⟩
      have hj2 := range_end hx
      have ej : j = n := by omega
      subst ej
      refine hk _ _ ?_
      clear hR R hk k
      walk_at "dd"
      obtain ⟨rest, e⟩ := subs_head j
      refine ⟨rest, by rw [e]; rfl, fun nss' hp hso => ?_⟩
      rw [← e] at hp
      have es := srtL_uniq hp hso
      subst es
      exact q
abbrev s_law : Stmt := topS 35
theorem sc_law : FnScope ["script", "bag", "rule", "days", "rows", "many", "due", "row", "number", "at", "odd"] ["script"] (defScope s_law) := ⟨rfl, rfl, rfl, by decide +kernel, rfl, by decide +kernel, by decide +kernel⟩
theorem fn_law {f c Pt : Addr} {fd : FuncData} {ec : Nat → Addr} (F : FunD K "law" "law" (defArgs s_law) (defBody s_law) (defScope s_law) [] [] f fd) (hcode : fd.code = .ref c) (TB : LamX.TabB base mg c Pt) (hnm : TabG.nm Pt = "law.<locals>.<lambda>") (c__law_bags : Fn P w K mg base "_law_bags" 2 ["script", "most"] (spBags K)) (c__law_take : Fn P w K mg base "_law_take" 1 ["bag", "many"] (spB K wTake)) (c__law_all : Fn P w K mg base "_law_all" 2 ["days"] (spN K wLawAll)) (m_len : mg "len" = none) (c__law_done : Fn P w K mg base "_law_done" 3 ["rule", "log"] (spN K wLDone)) (c_count_logs : FnK P w K mg base "count_logs" 5 2 "done" ["rule", "days", "done"] (spP K wCount)) (c__law_same : Fn P w K mg base "_law_same" 5 ["a", "b"] (spP K (wSame 4))) (m_sum : mg "sum" = none) (m_range : mg "range" = none) (c_log_at : FnK P w K mg base "log_at" 5 3 "done" ["rule", "days", "number", "done"] (spP K wLogAt)) (c__law_outcome : OutC P w K mg base 8 7 (ErrW ec)) (e_log_at : FnKX P w K mg base "log_at" 5 3 "done" ["rule", "days", "number", "done"] (spX K (wLogAtX (ec 3)))) :
    FnOk P w K mg base CX0 10 f fd ["script"] (lawSpT K [Pt]) :=
  law_mkT [Pt] (st := s_law) (N := ["script", "bag", "rule", "days", "rows", "many", "due", "row", "number", "at", "odd"]) F hcode sc_law (by decide) fun a A outer s H E hr => by
    letI : TabC := ⟨[Pt]⟩
    have sc := sc_law
    refine ⟨_, _, (xss_bags 1 c__law_bags hr sc.nd (fun b => ⟨_, by exact (xss_cons (xs_set 2 sc.nd (xe_tup (xa_cons (xe_ix (XN.ev (xn_lst (xa_cons xe_str (xa_cons xe_str (xa_cons xe_str xa_nil))))) (xe_draw c__law_take hr (by rfl) (xa_cons xe_int xa_nil))) (xa_cons (xe_op op_add sim_add xe_int (xe_draw c__law_take hr (by rfl) (xa_cons xe_int xa_nil))) (xa_cons (xe_draw c__law_take hr (by rfl) (xa_cons xe_int xa_nil)) xa_nil)))))
    (xss_cons (xs_set 3 sc.nd (xe_draw c__law_take hr (by rfl) (xa_cons xe_int xa_nil)))
    (xss_cons (xs_tg (tg := .t [4, 5]) (xe_tup (xa_cons (XN.ev (xn_call c__law_all hr (by rfl) (xa_cons (xe_var 3) xa_nil))) (xa_cons (xe_draw c__law_take hr (by rfl) (xa_cons (xe_op op_add sim_add (xe_var 3) xe_int) xa_nil)) xa_nil))) (xg_tup (xgs_cons (xg_name 4 sc.nd) (xgs_cons (xg_name 5 sc.nd) xgs_nil))))
    (xss_cons (xs_lc (lc_set (own := [("row", 7)]) (tg := .n 7) 6 sc.nd (xi_seq (xe_var 4)) (blkOk_by (N := ["script", "bag", "rule", "days", "rows", "many", "due", "row", "number", "at", "odd"]) (sc := defScope s_law) (by decide +kernel)) (fun _ _ _ _ _ => (xg_name 7 sc.nd)) (fun _ _ _ _ _ => ⟨_, by exact (xts_one (xt_cmp op_eq sim_eqS (xe_callB call_len_seq sim_len (by rfl) m_len (by decide +kernel) (xa_cons (XN.ev (xn_call c__law_done hr (by rfl) (xa_cons (xe_var 2) (xa_cons (xe_var 7) xa_nil)))) xa_nil)) (xe_var 5) (nomark _)))⟩) (fun _ _ _ _ _ => ⟨_, by exact (xe_var 7)⟩) (sw_true rfl rfl rfl (by decide +kernel))))
    (xss_cons (xs_if (XW.t (xw_or (xt_not (xt_val (xe_call c__law_same hr (by rfl) (xa_cons (xe_callKw c_count_logs hr (by rfl) (xa_cons (xe_var 2) (xa_cons (xe_var 3) xa_nil)) (xe_var 5)) (xa_cons (xe_callB call_len_seq sim_len (by rfl) m_len (by decide +kernel) (xa_cons (xe_var 6) xa_nil)) xa_nil))))) (xw_or1 (xt_cmp op_ne sim_neS (xe_callD c_count_logs hr (by rfl) (xa_cons (xe_var 2) (xa_cons (xe_var 3) xa_nil))) (xe_callB call_len_seq sim_len (by rfl) m_len (by decide +kernel) (xa_cons (xe_var 4) xa_nil)) (nomark _))))) (xss_one (xs_ret xe_bool)) xss_nil)
    (xss_cons (xs_if (xt_cmp op_ne sim_neS (xe_callB (cr_sum rfl) sim_sum (by rfl) m_sum (by decide +kernel) (xa_cons (XN.ev (xn_lc (own := [("number", 8)]) (tg := .n 8) sc.nd (xi_range1 (xa_cons (xe_op op_add sim_add (xe_var 3) xe_int) xa_nil) (by rfl) m_range) (blkOk_by (N := ["script", "bag", "rule", "days", "rows", "many", "due", "row", "number", "at", "odd"]) (sc := defScope s_law) (by decide +kernel)) (fun _ _ _ _ _ => (xg_name 8 sc.nd)) (fun _ _ _ _ _ => ⟨_, by exact xts_nil⟩) (fun _ _ _ _ _ => ⟨_, by exact (xe_callKw c_count_logs hr (by rfl) (xa_cons (xe_var 2) (xa_cons (xe_var 3) xa_nil)) (xe_var 8))⟩))) xa_nil)) (xe_callB call_len_seq sim_len (by rfl) m_len (by decide +kernel) (xa_cons (xe_var 4) xa_nil)) (nomark _)) (xss_one (xs_ret xe_bool)) xss_nil)
    (xss_cons (xs_forI (tg := .n 8) PassesOwn.never (xi_tup (xe_tup (xa_cons xe_int (xa_cons (xe_op op_sub sim_sub (xe_callB call_len_seq sim_len (by rfl) m_len (by decide +kernel) (xa_cons (xe_var 6) xa_nil)) xe_int) (xa_cons (xe_draw c__law_take hr (by rfl) (xa_cons (xe_op op_add sim_add (xe_callB call_len_seq sim_len (by rfl) m_len (by decide +kernel) (xa_cons (xe_var 6) xa_nil)) xe_int) xa_nil)) xa_nil))))) (xg_name 8 sc.nd) (xss_one (xs_if (xt_chain op_le sim_le op_lt sim_lt xe_int (xe_var 8) (xe_callB call_len_seq sim_len (by rfl) m_len (by decide +kernel) (xa_cons (xe_var 6) xa_nil))) (xss_one (xs_if (xt_not (xt_val (xe_call c__law_same hr (by rfl) (xa_cons (xe_callKw c_log_at hr (by rfl) (xa_cons (xe_var 2) (xa_cons (xe_var 3) (xa_cons (xe_var 8) xa_nil))) (xe_var 5)) (xa_cons (xe_ix (xe_var 6) (xe_var 8)) xa_nil))))) (xss_one (xs_ret xe_bool)) xss_nil)) xss_nil)))
    (xss_cons (xs_set 9 sc.nd (xe_draw c__law_take hr (by rfl) (xa_cons (xe_callB call_len_seq sim_len (by rfl) m_len (by decide +kernel) (xa_cons (xe_var 4) xa_nil)) xa_nil)))
    (xss_cons (xs_if (XW.t (xw_or (xt_cmp (op_neD hr.units) sim_neD (xe_callD c_log_at hr (by rfl) (xa_cons (xe_var 2) (xa_cons (xe_var 3) (xa_cons (xe_var 9) xa_nil)))) (xe_ix (xe_var 4) (xe_var 9)) (nomark _)) (xw_or1 (xt_cmp (op_neD hr.units) sim_neD (xe_callKw c_log_at hr (by rfl) (xa_cons (xe_var 2) (xa_cons (xe_var 3) (xa_cons (xe_var 9) xa_nil))) xe_none) (xe_ix (xe_var 4) (xe_var 9)) (nomark _))))) (xss_one (xs_ret xe_bool)) xss_nil)
    (xss_one (xs_forI (tg := .n 10) PassesOwn.never (xi_list (XN.ev (xn_lst (xa_cons (xe_callB call_len_seq sim_len (by rfl) m_len (by decide +kernel) (xa_cons (xe_var 6) xa_nil)) (xa_cons (xe_neg xe_int) (xa_cons xe_none (xa_cons xe_bool (xa_cons xe_str xa_nil)))))))) (xg_name 10 sc.nd) (xss_one (xs_if (xt_cmp (op_neD hr.units) sim_neD (xe_outX c__law_outcome hr ⟨⟨c, TB, rfl⟩, hnm.trans (by rfl)⟩ List.mem_cons_self (LamX.lamS_by (sc := defScope s_law) (by decide +kernel)) (by rfl) (fun A outer s H E f c hl => ⟨_, by exact (xr_callKw lam_takes e_log_at hl (by rfl) (xa_cons (xe_var 2) (xa_cons (xe_var 3) (xa_cons (xe_var 10) xa_nil))) (xe_var 5))⟩)) (xe_tup (xa_cons xe_str xa_nil)) (nomark _)) (xss_one (xs_ret xe_bool)) xss_nil)))))))))))))⟩)
    (xss_cons (xs_if (XW.t (xw_or (xt_cmp op_ne sim_neS (xe_callKw c_count_logs hr (by rfl) (xa_cons (xe_tup (xa_cons xe_str (xa_cons xe_int (xa_cons xe_int xa_nil)))) (xa_cons xe_int xa_nil)) xe_int) xe_int (nomark _)) (xw_or1 (xt_cmp (op_neD hr.units) sim_neD (xe_callD c_log_at hr (by rfl) (xa_cons (xe_tup (xa_cons xe_str (xa_cons xe_int (xa_cons xe_int xa_nil)))) (xa_cons xe_int (xa_cons xe_int xa_nil)))) (xe_tup (xa_cons xe_int xa_nil)) (nomark _))))) (xss_one (xs_ret xe_bool)) xss_nil)
    (xss_one (xs_ret (xe_cmp op_eq sim_eqS (xe_callD c_count_logs hr (by rfl) (xa_cons (xe_tup (xa_cons xe_str (xa_cons xe_int (xa_cons xe_int xa_nil)))) (xa_cons xe_int xa_nil))) xe_int (nomark _))))) (hp := PassesOwn.never)), ?_⟩
    unfold dBags
    refine ⟨⟨by decide, by decide⟩, by decide, noL_rep _, ?_, ?_⟩
    · refine seqK fun k hk => ?_
      walk_at "dd"
      refine ⟨3, ⟨by decide, by decide, by decide⟩, rfl, fun t0 t00 t01 => ?_⟩
      obtain ⟨d, hde, hd⟩ := atD_draw (ds := [.str "after", .str "fixed", .str "pile"]) t00 t01
      dsimp only
      rw [hde]
      obtain ⟨kd, rfl⟩ : ∃ k : Kd, d = .str k.s := by
        simp only [List.mem_cons, List.not_mem_nil, or_false] at hd
        rcases hd with rfl | rfl | rfl
        · exact ⟨.after, rfl⟩
        · exact ⟨.fixed, rfl⟩
        · exact ⟨.pile, rfl⟩
      refine ⟨6, ⟨by decide, by decide, by decide⟩, rfl, fun v v0 v1 => ?_⟩
      dsimp only
      refine ⟨5, ⟨by decide, by decide, by decide⟩, rfl, fun st st0 st1 => ?_⟩
      dsimp only
      refine hk _ _ ?_
      clear hk k
      generalize hev : 1 + v = e
      have e1 : 1 ≤ e := by omega
      have hr : Rule.Ok ⟨kd, e, st⟩ := mk_ok e1 (by omega) st0 (by omega)
      obtain ⟨r, rk, re, rs⟩ : ∃ r : Rule, r.kd = kd ∧ r.ev = e ∧ r.st = st := ⟨⟨kd, e, st⟩, rfl, rfl, rfl⟩
      subst rk re rs
      have hr : r.Ok := hr
      refine seqK fun k hk => ?_
      walk_at "dd"
      refine ⟨10, ⟨by decide, by decide, by decide⟩, rfl, fun dy d0 d1 => ?_⟩
      dsimp only
      refine hk _ _ ?_
      clear hk k
      obtain ⟨n, rfl⟩ : ∃ n : Nat, dy = (n : Int) := ⟨dy.toNat, by omega⟩
      have hn : n ≤ 9 := by omega
      refine seqK fun k hk => ?_
      walk_at "dd"
      refine ⟨n, (by show n ≤ 14; omega), rfl, ?_⟩
      refine ⟨(n : Int) + 2, ⟨by omega, by omega, by decide⟩, rfl, fun many m0 m1 => ?_⟩
      dsimp only
      refine hk _ _ ?_
      clear hk k
      refine seqK fun k hk => ?_
      walk_at "dd"
      have hp := pow14 (n := n) (by omega)
      have hsl := srt_len n
      refine ⟨by rw [List.length_map]; omega, lcGo_ofF tupI (okT r (some many)) tupI (fun row hrow => ?_) ?_⟩
      · obtain ⟨h1, h2, h3⟩ := srt_row hrow
        walk_at "ss"
        refine ⟨fun f Q' h => ?_, fun _ f Q' h => h⟩
        walk_at "dd"
        refine ⟨(r, row), ⟨e1, by show row.length ≤ 1000000; omega⟩, rfl, ?_⟩
        dsimp only
        unfold intsD
        rw [List.length_map]
        exact h
      rw [List.nil_append]
      have hdue : ((srt n).filter (okT r (some many))) = rowsOf r n (some many) := rfl
      rw [hdue]
      obtain ⟨l, hl⟩ : ∃ l, rowsOf r n (some many) = l := ⟨_, rfl⟩
      have hll := rows_len14 (r := r) (n := n) (o := some many) (by omega)
      rw [hl] at hll ⊢
      refine hk _ _ ?_
      clear hk k hdue
      have ro : RowsOk (r, (n : Int), some many) := ⟨hr, ⟨by show (0 : Int) ≤ n; omega, by show (n : Int) ≤ 14; omega⟩, fun m hm => by cases hm; exact ⟨m0, by omega⟩⟩
      have rn : RowsOk (r, (n : Int), none) := ⟨hr, ⟨by show (0 : Int) ≤ n; omega, by show (n : Int) ≤ 14; omega⟩, fun m hm => by cases hm⟩
      have el : rowsOf r ((n : Int)).toNat (some many) = l := hl
      have en : rowsOf r ((n : Int)).toNat none = srt n := List.filter_eq_self.mpr fun _ _ => rfl
      refine seqK fun k hk => ?_
      walk_at "dd"
      refine ⟨(r, (n : Int), some many), ro, rfl, ?_⟩
      dsimp only
      rw [el, List.length_map]
      refine ⟨.int l.length, .inl rfl, rfl, ?_⟩
      dsimp only
      rw [if_neg (by decide)]
      refine ⟨(r, (n : Int), none), rn, rfl, ?_⟩
      dsimp only
      rw [en, List.length_map, if_neg (by rw [decide_eq_true rfl]; decide)]
      refine hk _ _ ?_
      clear hk k
      refine seqK fun k hk => ?_
      walk_at "dd"
      refine ⟨⟨by omega, by omega⟩, by unfold rangeD; rw [List.length_map, List.length_range]; omega, ?_⟩
      rw [show ((n : Int) + 1).toNat = n + 1 by omega]
      unfold rangeD
      refine lcGo_of (fun k : Nat => PyData.int (0 + (k : Int))) (fun m => .int ((rowsOf r n (some (m : Int))).length : Int)) (fun m hm f Q' h => ?_) ?_
      · have hm2 := List.mem_range.mp hm
        walk_at "dd"
        refine ⟨(r, (n : Int), some (m : Int)), ⟨hr, ⟨by show (0 : Int) ≤ n; omega, by show (n : Int) ≤ 14; omega⟩, fun z hz => by cases hz; exact ⟨by omega, by omega⟩⟩, ?_, h⟩
        rw [Int.zero_add]
        rfl
      rw [List.nil_append]
      refine ⟨(List.range (n + 1)).map fun (m : Nat) => ((rowsOf r n (some (m : Int))).length : Int), by rw [List.map_map]; rfl, ?_⟩
      rw [rows_sum, List.length_map]
      rw [if_neg (by rw [decide_eq_true rfl]; decide)]
      refine hk _ _ ?_
      clear hk k
      refine seqK fun k hk => ?_
      refine forK fun R hR => ?_
      walk_at "dd"
      rw [List.length_map]
      refine ⟨(l.length : Int) + 1, ⟨by omega, by omega, by decide⟩, rfl, fun q q0 q1 => ?_⟩
      refine hR _ _ (fun xs ρ f => ∃ (ms : List Int) (z : SV), xs = ms.map PyData.int ∧ 3000000000 ≤ f ∧ ρ = [.u, .u, .d (ruleD r), .d (.int n), .d (.list ((srt n).map tupI)), .d (.int many), .d (.list (l.map tupI)), .u, z, .u, .u])
        ⟨[0, (l.length : Int) - 1, q], _, rfl, by decide, rfl⟩ ?_ ?_
      · clear hR R
        rintro x xs ρ f ⟨ms, z, hx, hf, rfl⟩
        cases ms with
        | nil => cases hx
        | cons i ms =>
          cases hx
          walk_at "ss"
          walk_at "dd"
          by_cases h0 : 0 ≤ i
          · rw [if_pos h0, List.length_map]
            by_cases h1 : i < (l.length : Int)
            · rw [if_pos h1]
              refine ⟨((r, (n : Int), some many), i), ⟨ro, h0, by show i < _; rw [el]; exact h1⟩, rfl, ?_⟩
              dsimp only
              rw [el, atD_row h0 h1]
              refine ⟨_, plN_row (by rw [← hl]; exact row_small (by omega) _), rfl, ?_⟩
              exact ⟨ms, _, rfl, hf, rfl⟩
            · rw [if_neg h1]
              exact ⟨ms, _, rfl, hf, rfl⟩
          · rw [if_neg h0]
            exact ⟨ms, _, rfl, hf, rfl⟩
      · rintro ρ f ⟨ms, z0, hx, hf, rfl⟩
        refine hk _ _ ?_
        clear hR R hk k
        refine seqK fun k hk => ?_
        walk_at "dd"
        have hpos : 0 < 2 ^ n := Nat.pow_pos (by decide)
        rw [List.length_map, hsl]
        refine ⟨((2 ^ n : Nat) : Int), ⟨by omega, by omega, by omega⟩, rfl, fun pl p0 p1 => ?_⟩
        dsimp only
        refine hk _ _ ?_
        clear hk k
        refine seqK fun k hk => ?_
        walk_at "dd"
        have hpl : pl < ((srt n).length : Int) := by rw [hsl]; exact p1
        refine ⟨((r, (n : Int), none), pl), ⟨rn, p0, by show pl < _; rw [en]; exact hpl⟩, rfl, ?_⟩
        simp only [en, atD_row p0 hpl]
        refine ⟨sh_row _, sh_row _, ?_⟩
        rw [rowAt_eqv, if_neg (by decide)]
        refine ⟨((r, (n : Int), none), pl), ⟨rn, p0, by show pl < _; rw [en]; exact hpl⟩, rfl, ?_⟩
        simp only [en]
        refine ⟨sh_row _, sh_row _, ?_⟩
        rw [rowAt_eqv, if_neg (by decide)]
        refine hk _ _ ?_
        clear hk k
        refine forK fun R hR => ?_
        walk_at "dd"
        refine hR _ _ (fun xs ρ f => ∃ z : SV, (∀ x ∈ xs, inRg x 0 ((l.length : Int) - 1) = false) ∧ ρ = [.u, .u, .d (ruleD r), .d (.int n), .d (.list ((srt n).map tupI)), .d (.int many), .d (.list (l.map tupI)), .u, z0, .d (.int pl), z]) ⟨_, (fun x hx => ?_), rfl⟩ ?_ ?_
        · rw [List.length_map] at hx
          simp only [List.mem_cons, List.not_mem_nil, or_false] at hx
          rcases hx with rfl | rfl | rfl | rfl | rfl
          · exact inRg_hi _
          · rfl
          · rfl
          · rfl
          · rfl
        · clear hR R
          rintro x xs ρ f ⟨z, hx, rfl⟩
          walk_at "ss"
          walk_at "dd"
          refine ⟨ec 3, ⟨((r, (n : Int), some many), x), ro, by show inRg x 0 _ = false; rw [el]; exact hx x List.mem_cons_self, rfl, rfl⟩, "InvalidNumber", ⟨3, by decide, rfl, rfl⟩, by decide +kernel, by decide +kernel, ?_⟩
          rw [if_neg (by decide +kernel)]
          exact ⟨_, fun y hy => hx y (List.mem_cons_of_mem _ hy), rfl⟩
        · rintro ρ f ⟨z, hx, rfl⟩
          exact keep_u (by simp) rfl
    · refine seqK fun k hk => ?_
      walk_at "dd"
      refine ⟨(rA2, 3, some 1), okA2 _ (fun m h => by cases h; exact ⟨by decide, by decide⟩), rfl, ?_⟩
      dsimp only
      rw [cA2, if_neg (by decide)]
      refine ⟨((rA2, 3, none), 1), ⟨okA2 _ (fun m h => by cases h), by decide, lenA2⟩, rfl, ?_⟩
      simp only [atA2]
      refine ⟨by decide +kernel, by decide +kernel, ?_⟩
      rw [if_neg (by decide +kernel)]
      refine hk _ _ ?_
      clear hk k
      walk_at "dd"
      refine ⟨(rP1, 14, none), okP1, rfl, ?_⟩
      dsimp only
      rw [cP1]
      rfl
end
/-! the head -/
def d_in_range : He.DefD := ⟨("in_range", none), "in_range", "in_range", defArgs s_in_range, defBody s_in_range, defScope s_in_range, [], []⟩
def d_is_kind : He.DefD := ⟨("is_kind", none), "is_kind", "is_kind", defArgs s_is_kind, defBody s_is_kind, defScope s_is_kind, [], []⟩
def d_is_rule : He.DefD := ⟨("is_rule", none), "is_rule", "is_rule", defArgs s_is_rule, defBody s_is_rule, defScope s_is_rule, [], []⟩
def d_check_rule : He.DefD := ⟨("check_rule", none), "check_rule", "check_rule", defArgs s_check_rule, defBody s_check_rule, defScope s_check_rule, [], []⟩
def d_check_number : He.DefD := ⟨("check_number", none), "check_number", "check_number", defArgs s_check_number, defBody s_check_number, defScope s_check_number, [], []⟩
def d_due_after : He.DefD := ⟨("due_after", none), "due_after", "due_after", defArgs s_due_after, defBody s_due_after, defScope s_due_after, [], []⟩
def d_played : He.DefD := ⟨("played", none), "played", "played", defArgs s_played, defBody s_played, defScope s_played, [], []⟩
def d_rows_of : He.DefD := ⟨("rows_of", none), "rows_of", "rows_of", defArgs s_rows_of, defBody s_rows_of, defScope s_rows_of, [], []⟩
def d_count_logs : He.DefD := ⟨("count_logs", none), "count_logs", "count_logs", defArgs s_count_logs, defBody s_count_logs, defScope s_count_logs, [], [("done", .non)]⟩
def d_log_at : He.DefD := ⟨("log_at", none), "log_at", "log_at", defArgs s_log_at, defBody s_log_at, defScope s_log_at, [], [("done", .non)]⟩
def d_law_well : He.DefD := ⟨("_law_well", none), "_law_well", "_law_well", defArgs s_law_well, defBody s_law_well, defScope s_law_well, [], []⟩
def d_law_take : He.DefD := ⟨("_law_take", none), "_law_take", "_law_take", defArgs s_law_take, defBody s_law_take, defScope s_law_take, [], []⟩
def d_law_bags : He.DefD := ⟨("_law_bags", none), "_law_bags", "_law_bags", defArgs s_law_bags, defBody s_law_bags, defScope s_law_bags, [], []⟩
def d_law_same : He.DefD := ⟨("_law_same", none), "_law_same", "_law_same", defArgs s_law_same, defBody s_law_same, defScope s_law_same, [], []⟩
def d_law_error : He.DefD := ⟨("_law_error", none), "_law_error", "_law_error", defArgs s_law_error, defBody s_law_error, defScope s_law_error, [], []⟩
def d_law_outcome : He.DefD := ⟨("_law_outcome", none), "_law_outcome", "_law_outcome", defArgs s_law_outcome, defBody s_law_outcome, defScope s_law_outcome, [], []⟩
def d_law_play : He.DefD := ⟨("_law_play", none), "_law_play", "_law_play", defArgs s_law_play, defBody s_law_play, defScope s_law_play, [], []⟩
def d_law_done : He.DefD := ⟨("_law_done", none), "_law_done", "_law_done", defArgs s_law_done, defBody s_law_done, defScope s_law_done, [], []⟩
def d_law_all : He.DefD := ⟨("_law_all", none), "_law_all", "_law_all", defArgs s_law_all, defBody s_law_all, defScope s_law_all, [], []⟩
def d_law : He.DefD := ⟨("law", none), "law", "law", defArgs s_law, defBody s_law, defScope s_law, [], []⟩
def fn : List He.DefD := [d_in_range, d_is_kind, d_is_rule, d_check_rule, d_check_number, d_due_after, d_played, d_rows_of, d_count_logs, d_log_at, d_law_well, d_law_take, d_law_bags, d_law_same, d_law_error, d_law_outcome, d_law_play, d_law_done, d_law_all, d_law]
def pr : List PrD := []
def fa : List He.Fa := [.glo "in_range", .glo "is_kind", .glo "is_rule", .glo "check_rule", .glo "check_number", .glo "due_after", .glo "played", .glo "rows_of", .glo "count_logs", .glo "log_at", .glo "_law_well", .glo "_law_take", .glo "_law_bags", .glo "_law_same", .glo "_law_error", .glo "_law_outcome", .glo "_law_play", .glo "_law_done", .glo "_law_all", .glo "law", .free "isinstance", .free "bool", .free "int", .free "str", .free "len", .free "tuple", .free "range", .free "sorted", .free "enumerate", .free "list", .free "all", .free "zip", .free "sum", .int "MOST_START" 1000, .int "MOST_EVERY" 100, .int "MOST_TICKS" 14, .glo "KINDS", .glo "InvalidRule", .glo "InvalidLog", .glo "InvalidDay", .glo "InvalidNumber", .glo "InvalidSeen", .glo "NothingToUndo", .glo "TooMany", .glo "TaskError", .exc "InvalidRule", .exc "InvalidLog", .exc "InvalidDay", .exc "InvalidNumber", .exc "InvalidSeen", .exc "NothingToUndo", .exc "TooMany", .exm "InvalidRule" "TaskError" true, .exm "InvalidLog" "TaskError" true, .exm "InvalidDay" "TaskError" true, .exm "InvalidNumber" "TaskError" true, .exm "InvalidSeen" "TaskError" true, .exm "NothingToUndo" "TaskError" true, .exm "TooMany" "TaskError" true]
def ex (K : PySem.W.Frag) : Bool := He.tupB K "KINDS" [.str "after", .str "fixed", .str "pile"] && errB K
abbrev R : PySem.W.OpenRow := PySem.W.OpenLaw.row PySem.Challenge.rw_repeattasks_k18_logs_counted
abbrev hk : PySem.W.Hook := He.hookX 4 fa fn [] [("law", none)] ex
def ob (s : PySem.W.SharedT) : He.AlX := He.obsX 4 fa fn [] [("law", none)] ex (HandSHeadRun.getT s)
theorem ob_eq (s : PySem.W.SharedT) : ob s = hk.obs s.abs := He.obsX_eq (HandSHeadRun.getT_eq s)
def loose1 : List PySem.Str := "TaskError" :: "InvalidRule" :: "InvalidLog" :: "InvalidDay" :: "InvalidNumber" :: "InvalidSeen" :: "NothingToUndo" :: "TooMany" :: "KINDS" :: "MOST_EVERY" :: "MOST_START" :: "in_range" :: "is_kind" :: "is_rule" :: "check_rule" :: "check_number" :: "due_after" :: "played" :: "MOST_TICKS" :: "rows_of" :: "count_logs" :: "log_at" :: "_law_well" :: "_law_take" :: "_law_bags" :: "_law_same" :: "_law_error" :: "_law_outcome" :: "_law_play" :: "_law_done" :: "_law_all" :: []
def loose2 : List PySem.Str := []
theorem run (w : World) : HandSHeadRun.RunEq R (PySem.W.view R.prog [35]) hk ob 20000 (loose1 ++ loose2) w := by
  intro os
  kernel_rfl
instance tg : TabG := ⟨fun _ => "law.<locals>.<lambda>"⟩
theorem facts {P : Program} {w : World} {K : PySem.W.Frag} {h : Heap} {mg : PySem.Str → Option Value} {f : Addr} (X : K.In h) (G : h.Ns mainGlobals mg) (hfa : mg ("law" : PySem.Str) = some (.ref f)) (c : He.SaysX fa fn [] [("law", none)] ex w h K) :
    ∃ fd : FuncData, (∀ (s : Shared) (v : Value), BindsTo s fd ⟨[v], []⟩ [("script", v)]) ∧ ∀ base : Heap, K.In base → base.Ns mainGlobals mg → LamX.TabB base mg (He.cT K ("law", none)).1 (He.cT K ("law", none)).2 → FnOk P w K mg base CX0 10 f fd ["script"] (lawSpT K [(He.cT K ("law", none)).2]) := by
  obtain ⟨fd_in_range, F_in_range⟩ := c.t.d.def_ 0 (d := d_in_range) rfl
  obtain ⟨fd_is_kind, F_is_kind⟩ := c.t.d.def_ 1 (d := d_is_kind) rfl
  obtain ⟨fd_is_rule, F_is_rule⟩ := c.t.d.def_ 2 (d := d_is_rule) rfl
  obtain ⟨fd_check_rule, F_check_rule⟩ := c.t.d.def_ 3 (d := d_check_rule) rfl
  obtain ⟨fd_check_number, F_check_number⟩ := c.t.d.def_ 4 (d := d_check_number) rfl
  obtain ⟨fd_due_after, F_due_after⟩ := c.t.d.def_ 5 (d := d_due_after) rfl
  obtain ⟨fd_played, F_played⟩ := c.t.d.def_ 6 (d := d_played) rfl
  obtain ⟨fd_rows_of, F_rows_of⟩ := c.t.d.def_ 7 (d := d_rows_of) rfl
  obtain ⟨fd_count_logs, F_count_logs⟩ := c.t.d.def_ 8 (d := d_count_logs) rfl
  obtain ⟨fd_log_at, F_log_at⟩ := c.t.d.def_ 9 (d := d_log_at) rfl
  obtain ⟨fd_law_well, F_law_well⟩ := c.t.d.def_ 10 (d := d_law_well) rfl
  obtain ⟨fd_law_take, F_law_take⟩ := c.t.d.def_ 11 (d := d_law_take) rfl
  obtain ⟨fd_law_bags, F_law_bags⟩ := c.t.d.def_ 12 (d := d_law_bags) rfl
  obtain ⟨fd_law_same, F_law_same⟩ := c.t.d.def_ 13 (d := d_law_same) rfl
  obtain ⟨fd_law_error, F_law_error⟩ := c.t.d.def_ 14 (d := d_law_error) rfl
  obtain ⟨fd_law_outcome, F_law_outcome⟩ := c.t.d.def_ 15 (d := d_law_outcome) rfl
  obtain ⟨fd_law_play, F_law_play⟩ := c.t.d.def_ 16 (d := d_law_play) rfl
  obtain ⟨fd_law_done, F_law_done⟩ := c.t.d.def_ 17 (d := d_law_done) rfl
  obtain ⟨fd_law_all, F_law_all⟩ := c.t.d.def_ 18 (d := d_law_all) rfl
  obtain ⟨fd_law, F_law⟩ := c.t.d.def_ 19 (d := d_law) rfl
  have g_in_range := He.glo_ok X G (c.t.d.fact 0 (f := .glo "in_range") rfl)
  have g_is_kind := He.glo_ok X G (c.t.d.fact 1 (f := .glo "is_kind") rfl)
  have g_is_rule := He.glo_ok X G (c.t.d.fact 2 (f := .glo "is_rule") rfl)
  have g_check_rule := He.glo_ok X G (c.t.d.fact 3 (f := .glo "check_rule") rfl)
  have g_check_number := He.glo_ok X G (c.t.d.fact 4 (f := .glo "check_number") rfl)
  have g_due_after := He.glo_ok X G (c.t.d.fact 5 (f := .glo "due_after") rfl)
  have g_played := He.glo_ok X G (c.t.d.fact 6 (f := .glo "played") rfl)
  have g_rows_of := He.glo_ok X G (c.t.d.fact 7 (f := .glo "rows_of") rfl)
  have g_count_logs := He.glo_ok X G (c.t.d.fact 8 (f := .glo "count_logs") rfl)
  have g_log_at := He.glo_ok X G (c.t.d.fact 9 (f := .glo "log_at") rfl)
  have g_law_well := He.glo_ok X G (c.t.d.fact 10 (f := .glo "_law_well") rfl)
  have g_law_take := He.glo_ok X G (c.t.d.fact 11 (f := .glo "_law_take") rfl)
  have g_law_bags := He.glo_ok X G (c.t.d.fact 12 (f := .glo "_law_bags") rfl)
  have g_law_same := He.glo_ok X G (c.t.d.fact 13 (f := .glo "_law_same") rfl)
  have g_law_error := He.glo_ok X G (c.t.d.fact 14 (f := .glo "_law_error") rfl)
  have g_law_outcome := He.glo_ok X G (c.t.d.fact 15 (f := .glo "_law_outcome") rfl)
  have g_law_play := He.glo_ok X G (c.t.d.fact 16 (f := .glo "_law_play") rfl)
  have g_law_done := He.glo_ok X G (c.t.d.fact 17 (f := .glo "_law_done") rfl)
  have g_law_all := He.glo_ok X G (c.t.d.fact 18 (f := .glo "_law_all") rfl)
  have g_law := He.glo_ok X G (c.t.d.fact 19 (f := .glo "law") rfl)
  have m_isinstance := He.free_ok X G (c.t.d.fact 20 (f := .free "isinstance") rfl)
  have m_bool := He.free_ok X G (c.t.d.fact 21 (f := .free "bool") rfl)
  have m_int := He.free_ok X G (c.t.d.fact 22 (f := .free "int") rfl)
  have m_str := He.free_ok X G (c.t.d.fact 23 (f := .free "str") rfl)
  have m_len := He.free_ok X G (c.t.d.fact 24 (f := .free "len") rfl)
  have m_tuple := He.free_ok X G (c.t.d.fact 25 (f := .free "tuple") rfl)
  have m_range := He.free_ok X G (c.t.d.fact 26 (f := .free "range") rfl)
  have m_sorted := He.free_ok X G (c.t.d.fact 27 (f := .free "sorted") rfl)
  have m_enumerate := He.free_ok X G (c.t.d.fact 28 (f := .free "enumerate") rfl)
  have m_list := He.free_ok X G (c.t.d.fact 29 (f := .free "list") rfl)
  have m_all := He.free_ok X G (c.t.d.fact 30 (f := .free "all") rfl)
  have m_zip := He.free_ok X G (c.t.d.fact 31 (f := .free "zip") rfl)
  have m_sum := He.free_ok X G (c.t.d.fact 32 (f := .free "sum") rfl)
  obtain ⟨t_MOST_START, gc_MOST_START⟩ := He.int_ok X G (c.t.d.fact 33 (f := .int "MOST_START" 1000) rfl)
  obtain ⟨t_MOST_EVERY, gc_MOST_EVERY⟩ := He.int_ok X G (c.t.d.fact 34 (f := .int "MOST_EVERY" 100) rfl)
  obtain ⟨t_MOST_TICKS, gc_MOST_TICKS⟩ := He.int_ok X G (c.t.d.fact 35 (f := .int "MOST_TICKS" 14) rfl)
  have gc_KINDS := He.glo_ok X G (c.t.d.fact 36 (f := .glo "KINDS") rfl)
  have r_KINDS := kinds_rp (K := K) (x := "KINDS") (He.ba c.more).1
  have e := hfa.symm.trans g_law
  cases e
  have b := FunD.bindsA (ps := ["script"]) F_law fun _ _ _ _ _ _ us hl => match us, hl with | [_], _ => rfl
  refine ⟨fd_law, fun s v => b s [v] rfl, fun base _ _ TB => ?_⟩
  have c_in_range := fn_in_range (P := P) (w := w) (base := base) F_in_range g_in_range m_isinstance m_bool m_int
  have c_is_kind := fn_is_kind (P := P) (w := w) (base := base) F_is_kind g_is_kind gc_KINDS r_KINDS m_isinstance m_str
  have c_is_rule := fn_is_rule (P := P) (w := w) (base := base) F_is_rule g_is_rule c_is_kind m_len m_isinstance m_tuple c_in_range gc_MOST_START gc_MOST_EVERY
  have c_check_rule := fn_check_rule (P := P) (w := w) (base := base) F_check_rule g_check_rule c_is_rule
  have c_check_number := fn_check_number (P := P) (w := w) (base := base) F_check_number g_check_number c_in_range
  have c_due_after := fn_due_after (P := P) (w := w) (base := base) F_due_after g_due_after 
  have c_played := fn_played (P := P) (w := w) (base := base) F_played g_played c_due_after
  have c_rows_of := fn_rows_of (P := P) (w := w) (base := base) F_rows_of g_rows_of c_check_rule c_check_number gc_MOST_TICKS m_range m_sorted m_len c_played
  have c_count_logs := fn_count_logs (P := P) (w := w) (base := base) F_count_logs g_count_logs m_len c_rows_of
  have c_log_at := fn_log_at (P := P) (w := w) (base := base) F_log_at g_log_at c_rows_of c_in_range m_len
  have e_log_at := fnX_log_at (P := P) (w := w) (base := base) (C := He.ga K "InvalidNumber") F_log_at g_log_at c_rows_of c_in_range m_len (excK_of (He.glo_ok X G (c.t.d.fact 40 (f := .glo "InvalidNumber") rfl)) (c.t.d.fact 48 (f := .exc "InvalidNumber") rfl))
  have c__law_well := fn_law_well (P := P) (w := w) (base := base) F_law_well g_law_well 
  have c__law_take := fn_law_take (P := P) (w := w) (base := base) F_law_take g_law_take 
  have c__law_bags := fn_law_bags (P := P) (w := w) (base := base) F_law_bags g_law_bags m_enumerate c__law_well
  have c__law_same := fn_law_same (P := P) (w := w) (base := base) F_law_same g_law_same m_isinstance m_tuple m_list m_all m_zip m_len m_bool m_int m_str
  have gE : ∀ x ∈ errN, mg x = some (.ref (He.ga K x)) := fun x hx => by
    simp only [errN, List.mem_cons, List.not_mem_nil, or_false] at hx
    rcases hx with rfl | rfl | rfl | rfl | rfl | rfl | rfl
    · exact He.glo_ok X G (c.t.d.fact 37 (f := .glo "InvalidRule") rfl)
    · exact He.glo_ok X G (c.t.d.fact 38 (f := .glo "InvalidLog") rfl)
    · exact He.glo_ok X G (c.t.d.fact 39 (f := .glo "InvalidDay") rfl)
    · exact He.glo_ok X G (c.t.d.fact 40 (f := .glo "InvalidNumber") rfl)
    · exact He.glo_ok X G (c.t.d.fact 41 (f := .glo "InvalidSeen") rfl)
    · exact He.glo_ok X G (c.t.d.fact 42 (f := .glo "NothingToUndo") rfl)
    · exact He.glo_ok X G (c.t.d.fact 43 (f := .glo "TooMany") rfl)
  have ke : ErrC K mg (ecA K) := errC_of (He.ba c.more).2 gE
  have c__law_error := fn_law_error (P := P) (w := w) (base := base) F_law_error ke m_isinstance m_zip
  have hxE : ∀ i, i < 7 → PySem.W.exmOne K (.ref (ecA K i)) (.ref (He.ga K "TaskError")) = some true := fun i hi => match i, hi with | 0, _ => He.exm_ok (x := "InvalidRule") (c.t.d.fact 52 (f := .exm "InvalidRule" "TaskError" true) rfl) | 1, _ => He.exm_ok (x := "InvalidLog") (c.t.d.fact 53 (f := .exm "InvalidLog" "TaskError" true) rfl) | 2, _ => He.exm_ok (x := "InvalidDay") (c.t.d.fact 54 (f := .exm "InvalidDay" "TaskError" true) rfl) | 3, _ => He.exm_ok (x := "InvalidNumber") (c.t.d.fact 55 (f := .exm "InvalidNumber" "TaskError" true) rfl) | 4, _ => He.exm_ok (x := "InvalidSeen") (c.t.d.fact 56 (f := .exm "InvalidSeen" "TaskError" true) rfl) | 5, _ => He.exm_ok (x := "NothingToUndo") (c.t.d.fact 57 (f := .exm "NothingToUndo" "TaskError" true) rfl) | 6, _ => He.exm_ok (x := "TooMany") (c.t.d.fact 58 (f := .exm "TooMany" "TaskError" true) rfl)
  have c__law_outcome := fn_law_outcome (P := P) (w := w) (base := base) F_law_outcome g_law_outcome c__law_error g_law_error F_law_error.kp (He.glo_ok X G (c.t.d.fact 44 (f := .glo "TaskError") rfl)) hxE
  have c__law_play := fn_law_play (P := P) (w := w) (base := base) F_law_play g_law_play 
  have c__law_done := fn_law_done (P := P) (w := w) (base := base) F_law_done g_law_done c__law_play
  have c__law_all := fn_law_all (P := P) (w := w) (base := base) F_law_all g_law_all m_range m_sorted
  exact fn_law F_law (code_of F_law) TB rfl c__law_bags c__law_take c__law_all m_len c__law_done c_count_logs c__law_same m_sum m_range c_log_at c__law_outcome e_log_at
end Pr
open PySem PySem.W PySem.Calls PyProof.Rows
theorem PySem.Challenge.cw_repeattasks_k18_logs_counted_holds : PySem.Challenge.rw_repeattasks_k18_logs_counted.Holds := by
  w_on; o_law
  refine HandSHeadRun.head_any (r := OpenLaw.row PySem.Challenge.rw_repeattasks_k18_logs_counted) (q := view (OpenLaw.row PySem.Challenge.rw_repeattasks_k18_logs_counted).prog [35]) (H := Pr.hk) (ob := Pr.ob) (M := 20000) (loose := Pr.loose1 ++ Pr.loose2) (d := HandSHeadRun.topDef (OpenLaw.row PySem.Challenge.rw_repeattasks_k18_logs_counted).prog 35) (kwd := []) Pr.ob_eq
    (by kernel_rfl) (fun s => by kernel_rfl) Pr.run (by kernel_rfl) (by kernel_rfl) (by kernel_rfl) (by rfl) (by first | assumption | decide +kernel) (by decide +kernel) ⟨rfl, rfl, rfl, rfl, rfl, by decide +kernel⟩ ?hw ?hc
  case hw => w_witness2
  case hc =>
    refine LamX.walk_ofTsE (l := PySem.Challenge.rw_repeattasks_k18_logs_counted) (n := 63) (k := 10) (x := "script") (CX := fun _ => L2.CX0) rfl (by decide) (by kernel_rfl) ⟨rfl, by decide, by decide⟩ ?F (fun _ _ _ _ _ z => z)
    intro w mg fa h Y G hmg0
    obtain ⟨K, KX, c⟩ := Y
    have hmg : mg ("law" : PySem.Str) = some (.ref fa) := by
      have e : (HandSHeadRun.topDef (OpenLaw.row PySem.Challenge.rw_repeattasks_k18_logs_counted).prog 35).name = ("law" : PySem.Str) := by kernel_rfl
      rw [← e]
      exact hmg0
    obtain ⟨fd, hb, hF⟩ := Pr.facts (P := (PySem.Challenge.rw_repeattasks_k18_logs_counted).prog) (w := w) KX G hmg c
    refine ⟨K, KX, fd, [He.cT K ("law", none)], Dt.lawSpT K [(He.cT K ("law", none)).2], fun p hp => ?_, fun p hp => ?_, fun p hp => ?_, hb, fun H a ns hl _ hH hS => ⟨⟨a, ns, rfl, hS, hl, fun _ => rfl⟩, fun P hP => by rw [List.mem_singleton.mp hP]; exact LamX.TabS.nil (hH _ List.mem_cons_self)⟩, fun base k1 k2 hT => hF base k1 k2 (hT _ List.mem_cons_self)⟩
    · rw [List.mem_singleton.mp hp]
      exact c.empty _ List.mem_cons_self
    · rw [List.mem_singleton.mp hp]
      exact c.out _ List.mem_cons_self
    · rw [List.mem_singleton.mp hp]
      exact PySem.W.codeHd_of_K KX (c.hd _ List.mem_cons_self)
#print axioms PySem.Challenge.cw_repeattasks_k18_logs_counted_holds
