import PyProof.Rows.All
import Wide.All
import OpenK.AllK
import Wide.FinOn
import HandS.ForMost
import HandS.Exc
import HandS.TryOnly
import HandS.WordsExc
import HandS.Deep
import HandS.IsInst
import HandS.Wide
import HandS.TupAny
import HandS.Lambda
import HandS.AnyAll
import HandS.Conv
import HandS.TupLen
import HandS.TupMul
import HandS.More
import HandS.ExcSuper
import KE.KExcSuper
import KE.KSuper
import HandS.GenCall
import HandS.TupSets
import KE.SortData
import KE.KDictCopyH
import HandS.Style
import HandS.Head0
import HandS.Head1
import HandS.Head2
import HandS.HeadEnd
import HandS.HeadHook1
import HandS.HeadHook2
import HandS.HeadHook3
import HandS.HeadHook4
import HandS.HeadWalk
import HandS.EndTab
import PySem.Challenge.RW_organranks_k02_whole_tunings
set_option Elab.async false
set_option linter.all false
set_option maxRecDepth 100000
set_option maxHeartbeats 4000000
/-! The data layer, 1: what slots hold, results, growth of the abstract heap. -/
namespace DL
open PySem PySem.Spec PyProof.Rows L2

/-! ### results -/
inductive Res (α : Type) where
  | ok (a : α)
  | exn (n : Str)
  | stuck
abbrev Dc := Int × Int × Int
/-- a dict keyed by pairs of ints -/
abbrev PD := List ((Int × Int) × V)
inductive Val where
  | p (d : PyData)
  | ol (ds : List PyData)
  | fd (kvs : PD)
  | od (kvs : PD)
  | dice
  | scr (ns : List Int)
abbrev Rho := List (Option Val)
abbrev SM (α : Type) := Rho → Dc → Res (α × Dc)
abbrev SE := SM Val
def SM.bind {α β : Type} (m : SM α) (k : α → SM β) : SM β := fun ρ dc => match m ρ dc with
  | .ok (a, dc') => k a ρ dc'
  | .exn n => .exn n
  | .stuck => .stuck
def SM.ret {α : Type} (a : α) : SM α := fun _ dc => .ok (a, dc)
def SM.opt {α : Type} (o : Option α) : SM α := fun _ dc => match o with
  | some a => .ok (a, dc)
  | none => .stuck

/-! ### heaps -/
def kT (kvs : PD) : List (List Key × V) := kvs.map fun q => ([.inl q.1.1, .inl q.1.2], q.2)
abbrev Tbs := List (Addr × Option Str)
/-- the tables of code objects -/
def Tb (T : Tbs) (H : Hp) : Prop := ∀ p ∈ T, match p.2 with
  | some q => LamX.TabS H p.1 q
  | none => GxR.TabG H p.1
def NT (o : HO) : Prop := ∀ ps, o ≠ .tbl ps
structure GrX (T : Tbs) (ad : Option Addr) (H H' : Hp) : Prop where
  ext : ∀ b o, H b = some o → NT o → ad ≠ some b → H' b = some o
  dom : ∀ b, H' b = none → H b = none
  tab : Tb T H'
  tbl : ∀ b ps, H b = some (.tbl ps) → ∃ ps', H' b = some (.tbl ps')
structure Gr (T : Tbs) (ad : Option Addr) (F H F' H' : Hp) : Prop extends GrX T ad H H' where
  sub : ∀ b o, F b = some o → F' b = some o
  inc : ∀ b o, F' b = some o → H' b = some o
  new : ∀ b o, F' b = some o → F b = some o ∨ (H b = none ∧ NT o)
  tups : ∀ b xs, H' b = some (.tup xs) → F' b = some (.tup xs) ∨ H b = some (.tup xs)
theorem GrX.trans {T : Tbs} {ad : Option Addr} {H H1 H2 : Hp} (a : GrX T ad H H1) (b : GrX T ad H1 H2) : GrX T ad H H2 where
  ext := fun c o h n e => b.ext c o (a.ext c o h n e) n e
  dom := fun c h => a.dom c (b.dom c h)
  tab := b.tab
  tbl := fun c ps h => let ⟨p1, h1⟩ := a.tbl c ps h; b.tbl c p1 h1
theorem GrX.weak {T : Tbs} {ad : Option Addr} {H H1 : Hp} (a : GrX T none H H1) : GrX T ad H H1 := ⟨fun c o h n _ => a.ext c o h n (by simp), a.dom, a.tab, a.tbl⟩
theorem GrX.refl {T : Tbs} {ad : Option Addr} {H : Hp} (t : Tb T H) : GrX T ad H H := ⟨fun _ _ h _ _ => h, fun _ h => h, t, fun _ ps h => ⟨ps, h⟩⟩
theorem Gr.trans {T : Tbs} {ad : Option Addr} {F H F1 H1 F2 H2 : Hp} (a : Gr T ad F H F1 H1) (b : Gr T ad F1 H1 F2 H2) : Gr T ad F H F2 H2 where
  toGrX := a.toGrX.trans b.toGrX
  sub := fun c o h => b.sub c o (a.sub c o h)
  inc := b.inc
  new := fun c o h => by
    rcases b.new c o h with h1 | h1
    · exact a.new c o h1
    · exact .inr ⟨a.dom c h1.1, h1.2⟩
  tups := fun c xs h => by
    rcases b.tups c xs h with h1 | h1
    · exact .inl h1
    · rcases a.tups c xs h1 with h2 | h2
      · exact .inl (b.sub c _ h2)
      · exact .inr h2
theorem Gr.weak {T : Tbs} {ad : Option Addr} {F H F1 H1 : Hp} (a : Gr T none F H F1 H1) : Gr T ad F H F1 H1 := ⟨a.toGrX.weak, a.sub, a.inc, a.new, a.tups⟩
theorem Gr.refl {T : Tbs} {ad : Option Addr} {F H : Hp} (t : Tb T H) (i : ∀ b o, F b = some o → H b = some o) : Gr T ad F H F H := ⟨.refl t, fun _ _ h => h, i, fun _ _ h => .inl h, fun _ _ h => .inr h⟩
theorem Tb.laid {T : Tbs} {H : Hp} {p : Addr} {o : HO} (t : Tb T H) (h : H p = none) : Tb T (upd H p o) := by
  have e : ∀ b u, H b = some u → upd H p o b = some u := fun b u q => by rw [upd_ne (ne_of_none q h)]; exact q
  intro q hq
  have z := t q hq
  obtain ⟨a, x⟩ := q
  cases x with
  | some n => exact LamX.TabS.ext z e
  | none =>
    obtain ⟨ps, h1, h2⟩ := z
    exact ⟨ps, e _ _ h1, h2⟩
/-- a table's object may not be at p -/
theorem Tb.wrote {T : Tbs} {H : Hp} {p : Addr} {o u : HO} (t : Tb T H) (h : H p = some u) (n : NT u) (hc : ∀ c q, u ≠ LamX.CodeO c q) : Tb T (upd H p o) := by
  have e : ∀ b (x : HO), H b = some x → x ≠ u → upd H p o b = some x := fun b x q hx => by
    rw [upd_ne (fun z => by rw [z, h] at q; exact hx (Option.some.inj q).symm)]; exact q
  intro q hq
  have z := t q hq
  obtain ⟨a, x⟩ := q
  cases x with
  | some nm =>
    obtain ⟨ps, h1, h2, h3⟩ := z
    refine ⟨ps, e _ _ h1 (fun z => n ps z.symm), h2, fun pos cv hcv => ?_⟩
    obtain ⟨c, e1, e2⟩ := h3 pos cv hcv
    exact ⟨c, e1, e _ _ e2 (fun z => hc _ _ z.symm)⟩
  | none =>
    obtain ⟨ps, h1, h2⟩ := z
    exact ⟨ps, e _ _ h1 (fun z => n ps z.symm), h2⟩
/-- a new object, not frozen; frozen -/
theorem Gr.laid {T : Tbs} {ad : Option Addr} {F H : Hp} {p : Addr} {o : HO} (t : Tb T H) (i : ∀ b o, F b = some o → H b = some o) (h : H p = none) (n : ∀ xs, o ≠ .tup xs := by exact fun _ h => by cases h) : Gr T ad F H F (upd H p o) where
  ext := fun b u q _ _ => by rw [upd_ne (ne_of_none q h)]; exact q
  dom := fun b q => by
    by_cases e : b = p
    · rw [e]; exact h
    · rw [upd_ne e] at q; exact q
  tab := t.laid h
  tbl := fun b ps q => ⟨ps, by rw [upd_ne (ne_of_none q h)]; exact q⟩
  tups := fun b xs q => by
    by_cases e : b = p
    · rw [e, upd_same] at q; exact absurd (Option.some.inj q) (n xs)
    · rw [upd_ne e] at q; exact .inr q
  sub := fun _ _ q => q
  inc := fun b u q => by rw [upd_ne (ne_of_none (i b u q) h)]; exact i b u q
  new := fun _ _ q => .inl q
theorem Gr.frozen {T : Tbs} {ad : Option Addr} {F H : Hp} {p : Addr} {o : HO} (t : Tb T H) (i : ∀ b o, F b = some o → H b = some o) (h : H p = none) (n : NT o := by exact fun _ h => by cases h) : Gr T ad F H (upd F p o) (upd H p o) where
  ext := fun b u q _ _ => by rw [upd_ne (ne_of_none q h)]; exact q
  dom := fun b q => by
    by_cases e : b = p
    · rw [e]; exact h
    · rw [upd_ne e] at q; exact q
  tab := t.laid h
  tbl := fun b ps q => ⟨ps, by rw [upd_ne (ne_of_none q h)]; exact q⟩
  tups := fun b xs q => by
    by_cases e : b = p
    · rw [e, upd_same] at q ⊢; exact .inl q
    · rw [upd_ne e] at q; exact .inr q
  sub := fun b u q => by rw [upd_ne (ne_of_none (i b u q) h)]; exact q
  inc := fun b u q => by
    by_cases e : b = p
    · rw [e, upd_same] at q ⊢; exact q
    · rw [upd_ne e] at q ⊢; exact i b u q
  new := fun b u q => by
    by_cases e : b = p
    · rw [e, upd_same] at q
      cases q
      rw [e]
      exact .inr ⟨h, n⟩
    · rw [upd_ne e] at q; exact .inl q
/-! ### data are kept -/
theorem sqL_mono {K : PySem.W.Frag} {F F' : Hp} {a : Addr} {xs : List V} (e : ∀ b o, F b = some o → F' b = some o) (h : SqL K F a xs) : SqL K F' a xs := by
  rcases h with (h | ⟨o, h⟩) | h
  · exact .inl (.inl (e _ _ h))
  · exact .inl (.inr ⟨o, e _ _ h⟩)
  · exact .inr h
theorem sqT_mono {K : PySem.W.Frag} {F F' : Hp} {a : Addr} {xs : List V} (e : ∀ b o, F b = some o → F' b = some o) (h : SqT K F a xs) : SqT K F' a xs := by
  rcases h with (h | ⟨o, h⟩) | h
  · exact .inl (.inl (e _ _ h))
  · exact .inl (.inr ⟨o, e _ _ h⟩)
  · exact .inr h
mutual
/-- a value that reads as data: tuples and lists that stand still -/
inductive R (F : Hp) : V → PyData → Prop
  | non : R F .non .none
  | bl (b : Bool) : R F (.bl b) (.bool b)
  | int (i : Int) : R F (.int i) (.int i)
  | str (x : Str) : R F (.str x) (.str x)
  | lst {a : Addr} {xs : List V} {ds : List PyData} : F a = some (.lst xs) → RA F xs ds → R F (.ref a) (.list ds)
  | tup {a : Addr} {xs : List V} {ds : List PyData} : F a = some (.tup xs) → RA F xs ds → R F (.ref a) (.tuple ds)
inductive RA (F : Hp) : List V → List PyData → Prop
  | nil : RA F [] []
  | cons {v : V} {vs : List V} {d : PyData} {ds : List PyData} : R F v d → RA F vs ds → RA F (v :: vs) (d :: ds)
end
theorem rd_mono {F F' : Hp} {a : Addr} {o : HO} (e : ∀ b o, F b = some o → F' b = some o) (h : Rd F a o) : Rd F' a o := by
  rcases h with h | ⟨u, h⟩
  · exact .inl (e _ _ h)
  · exact .inr ⟨u, e _ _ h⟩
mutual
theorem r_mono {F F' : Hp} (e : ∀ b o, F b = some o → F' b = some o) : ∀ (d : PyData) (v : V), R F v d → R F' v d
  | .none, _, h => by cases h; exact .non
  | .bool _, _, h => by cases h; exact .bl _
  | .int _, _, h => by cases h; exact .int _
  | .str _, _, h => by cases h; exact .str _
  | .list ds, _, h => by
    cases h with
    | lst h1 h2 => exact .lst (e _ _ h1) (ra_mono e ds _ h2)
  | .tuple ds, _, h => by
    cases h with
    | tup h1 h2 => exact .tup (e _ _ h1) (ra_mono e ds _ h2)
  | .dict _, _, h => by cases h
theorem ra_mono {F F' : Hp} (e : ∀ b o, F b = some o → F' b = some o) : ∀ (ds : List PyData) (vs : List V), RA F vs ds → RA F' vs ds
  | [], _, h => by cases h; exact .nil
  | d :: ds, _, h => by
    cases h with
    | cons h1 h2 => exact .cons (r_mono e d _ h1) (ra_mono e ds _ h2)
end
mutual
theorem r_dp {K : PySem.W.Frag} {F H : Hp} (e : ∀ b o, F b = some o → H b = some o) : ∀ (d : PyData) (v : V), R F v d → Dp K H v d
  | .none, _, h => by cases h; exact .non
  | .bool _, _, h => by cases h; exact .bl _
  | .int _, _, h => by cases h; exact .int _
  | .str _, _, h => by cases h; exact .str _
  | .list ds, _, h => by
    cases h with
    | lst h1 h2 => exact .lst (.inl (.inl (e _ _ h1))) (ra_dp e ds _ h2)
  | .tuple ds, _, h => by
    cases h with
    | tup h1 h2 => exact .tup (.inl (.inl (e _ _ h1))) (ra_dp e ds _ h2)
  | .dict _, _, h => by cases h
theorem ra_dp {K : PySem.W.Frag} {F H : Hp} (e : ∀ b o, F b = some o → H b = some o) : ∀ (ds : List PyData) (vs : List V), RA F vs ds → DpAll K H vs ds
  | [], _, h => by cases h; exact .nil
  | d :: ds, _, h => by
    cases h with
    | cons h1 h2 => exact .cons (r_dp e d _ h1) (ra_dp e ds _ h2)
end
section
variable {F : Hp}
theorem ra_len : ∀ {vs : List V} {ds : List PyData}, RA F vs ds → vs.length = ds.length
  | [], [], _ => rfl
  | [], _ :: _, h => by cases h
  | _ :: _, [], h => by cases h
  | v :: vs, d :: ds, h => by
    cases h with
    | cons h1 h2 => rw [List.length_cons, List.length_cons, ra_len h2]
theorem ra_get : ∀ {vs : List V} {ds : List PyData} {i : Nat} {d : PyData}, RA F vs ds → ds[i]? = some d → ∃ v, vs[i]? = some v ∧ R F v d
  | [], [], _, _, _, e => by simp at e
  | [], _ :: _, _, _, h, _ => by cases h
  | _ :: _, [], _, _, h, _ => by cases h
  | v :: vs, d :: ds, 0, _, h, e => by
    cases h with
    | cons h1 h2 => simp at e; subst e; exact ⟨v, rfl, h1⟩
  | v :: vs, d :: ds, i + 1, _, h, e => by
    cases h with
    | cons h1 h2 => simp at e; simpa using ra_get h2 e
theorem ra_get' : ∀ {vs : List V} {ds : List PyData} {i : Nat} {v : V}, RA F vs ds → vs[i]? = some v → ∃ d, ds[i]? = some d ∧ R F v d
  | [], [], _, _, _, e => by simp at e
  | [], _ :: _, _, _, h, _ => by cases h
  | _ :: _, [], _, _, h, _ => by cases h
  | v :: vs, d :: ds, 0, _, h, e => by
    cases h with
    | cons h1 h2 => simp at e; subst e; exact ⟨d, rfl, h1⟩
  | v :: vs, d :: ds, i + 1, _, h, e => by
    cases h with
    | cons h1 h2 => simp at e; simpa using ra_get' h2 e
theorem ra_app : ∀ {vs ws : List V} {ds es : List PyData}, RA F vs ds → RA F ws es → RA F (vs ++ ws) (ds ++ es)
  | [], _, [], _, _, h => h
  | [], _, _ :: _, _, h, _ => by cases h
  | _ :: _, _, [], _, h, _ => by cases h
  | v :: vs, _, d :: ds, _, h, h' => by
    cases h with
    | cons h1 h2 => exact .cons h1 (ra_app h2 h')
theorem ra_drop : ∀ {vs : List V} {ds : List PyData} (n : Nat), RA F vs ds → RA F (vs.drop n) (ds.drop n)
  | _, _, 0, h => h
  | [], [], _ + 1, h => h
  | [], _ :: _, _ + 1, h => by cases h
  | _ :: _, [], _ + 1, h => by cases h
  | v :: vs, d :: ds, n + 1, h => by
    cases h with
    | cons h1 h2 => exact ra_drop n h2
theorem ra_take : ∀ {vs : List V} {ds : List PyData} (n : Nat), RA F vs ds → RA F (vs.take n) (ds.take n)
  | _, _, 0, h => .nil
  | [], [], _ + 1, h => h
  | [], _ :: _, _ + 1, h => by cases h
  | _ :: _, [], _ + 1, h => by cases h
  | v :: vs, d :: ds, n + 1, h => by
    cases h with
    | cons h1 h2 => exact .cons h1 (ra_take n h2)
theorem ra_ints : ∀ {vs : List V} {ns : List Int}, RA F vs (ns.map .int) → vs = ns.map V.int
  | [], [], _ => rfl
  | [], _ :: _, h => by cases h
  | _ :: _, [], h => by cases h
  | v :: vs, n :: ns, h => by
    cases h with
    | cons h1 h2 =>
      cases h1
      rw [ra_ints h2]
      rfl
theorem ints_ra : ∀ (ns : List Int), RA F (ns.map V.int) (ns.map .int)
  | [] => .nil
  | n :: ns => .cons (.int n) (ints_ra ns)
theorem ra_bools : ∀ {vs : List V} {ns : List Bool}, RA F vs (ns.map .bool) → vs = ns.map V.bl
  | [], [], _ => rfl
  | [], _ :: _, h => by cases h
  | _ :: _, [], h => by cases h
  | v :: vs, n :: ns, h => by
    cases h with
    | cons h1 h2 =>
      cases h1
      rw [ra_bools h2]
      rfl
end
/-! ### values and slots -/
/-- what is fixed in a def's run: the frozen heap and the heap at its entry, the dice that it was handed -/
structure Ct where
  F0 : Hp
  H0 : Hp
  ad : Option Addr
/-- what is fixed in the whole law -/
structure Cg where
  K : PySem.W.Frag
  T : Tbs
  C : Addr
def Mine (t : Ct) (F : Hp) (a : Addr) : Prop := F a = none ∧ t.H0 a = none ∧ t.ad ≠ some a
def VR (g : Cg) (t : Ct) (F H : Hp) (v : V) : Val → Prop
  | .p d => R F v d
  | .ol ds => ∃ a vs, v = .ref a ∧ Mine t F a ∧ H a = some (.lst vs) ∧ RA F vs ds
  | .fd kvs => ∃ a o, v = .ref a ∧ F a = some (.frz o (.dT (kT kvs)))
  | .od kvs => ∃ a, v = .ref a ∧ Mine t F a ∧ H a = some (.dT (kT kvs))
  | .dice => ∃ a, v = .ref a ∧ t.ad = some a
  | .scr ns => ∃ a, v = .ref a ∧ SqL g.K t.H0 a (ns.map V.int) ∧ t.ad ≠ some a
def VRf (g : Cg) (t : Ct) (F H : Hp) (v : V) : Val → Prop
  | .p d => R F v d
  | .ol ds => ∃ a vs, v = .ref a ∧ Mine t F a ∧ H a = some (.lst vs) ∧ RA F vs ds
  | .fd kvs => ∃ a o, v = .ref a ∧ F a = some (.frz o (.dT (kT kvs)))
  | _ => False
def Val.own : Val → Bool
  | .ol _ => true
  | .od _ => true
  | _ => false
def DiceAt (t : Ct) (dc : Dc) (F H : Hp) : Prop := ∀ a, t.ad = some a → F a = none ∧ t.H0 a ≠ none ∧ H a = some (.lst [.int dc.1, .int dc.2.1, .int dc.2.2])
structure SR (g : Cg) (t : Ct) (ρ : Rho) (dc : Dc) (F : Hp) (σ : L2.St) (H : Hp) : Prop where
  slot : ∀ (i : Nat) x, ρ[i]? = some (some x) → ∃ v, σ[i]? = some (some v) ∧ VR g t F H v x
  dist : ∀ (i j : Nat) x y v, i ≠ j → ρ[i]? = some (some x) → ρ[j]? = some (some y) → x.own = true → y.own = true → σ[i]? = some (some v) → σ[j]? ≠ some (some v)
  gr : Gr g.T t.ad t.F0 t.H0 F H
  dice : DiceAt t dc F H
  len : ρ.length = σ.length
  nt : ∀ b ps, F b ≠ some (.tbl ps)
  tup : ∀ b xs, H b = some (.tup xs) → F b = some (.tup xs)
theorem Tb.tbl {T : Tbs} {H : Hp} (t : Tb T H) {p : Addr × Option Str} (h : p ∈ T) : ∃ ps, H p.1 = some (.tbl ps) := by
  have z := t p h
  obtain ⟨a, x⟩ := p
  cases x with
  | some q => obtain ⟨ps, h1, _⟩ := z; exact ⟨ps, h1⟩
  | none => obtain ⟨ps, h1, _⟩ := z; exact ⟨ps, h1⟩
theorem lst_nt {xs : List V} : NT (.lst xs) := fun _ h => by cases h
theorem dT_nt {xs : List (List Key × V)} : NT (.dT xs) := fun _ h => by cases h
theorem Mine.gr {g : Cg} {t : Ct} {F H F' H' : Hp} {a : Addr} {o : HO} (m : Mine t F a) (x : Gr g.T t.ad F H F' H') (h : H a = some o) : Mine t F' a := by
  refine ⟨?_, m.2⟩
  cases e : F' a with
  | none => rfl
  | some u =>
    rcases x.new a u e with q | ⟨q, _⟩
    · rw [m.1] at q; cases q
    · rw [h] at q; cases q
theorem VR.gr {g : Cg} {t : Ct} {F H F' H' : Hp} {v : V} {x : Val} (h : VR g t F H v x) (e : Gr g.T t.ad F H F' H') : VR g t F' H' v x := by
  cases x with
  | p d => exact r_mono e.sub d v h
  | ol ds =>
    obtain ⟨a, vs, h1, h2, h3, h4⟩ := h
    exact ⟨a, vs, h1, h2.gr e h3, e.ext a _ h3 lst_nt h2.2.2, ra_mono e.sub ds vs h4⟩
  | fd kvs =>
    obtain ⟨a, o, h1, h2⟩ := h
    exact ⟨a, o, h1, e.sub a _ h2⟩
  | od kvs =>
    obtain ⟨a, h1, h2, h3⟩ := h
    exact ⟨a, h1, h2.gr e h3, e.ext a _ h3 dT_nt h2.2.2⟩
  | dice => exact h
  | scr _ => exact h
theorem VRf.vr {g : Cg} {t : Ct} {F H : Hp} {v : V} {x : Val} (h : VRf g t F H v x) : VR g t F H v x := by
  cases x with
  | p d => exact h
  | ol ds => exact h
  | fd kvs => exact h
  | od kvs => exact h.elim
  | dice => exact h.elim
  | scr _ => exact h.elim
theorem VRf.mv {g : Cg} {t t' : Ct} {F H : Hp} {v : V} {x : Val} (h : VRf g t F H v x) (e : t.ad = t'.ad) (d : ∀ a, t.H0 a = none → t'.H0 a = none) : VRf g t' F H v x := by
  cases x with
  | p d => exact h
  | ol ds =>
    obtain ⟨a, vs, h1, h2, h3⟩ := h
    exact ⟨a, vs, h1, ⟨h2.1, d a h2.2.1, by rw [← e]; exact h2.2.2⟩, h3⟩
  | fd kvs => exact h
  | od kvs => exact h.elim
  | dice => exact h.elim
  | scr _ => exact h.elim
theorem SR.gr' {g : Cg} {t : Ct} {ρ : Rho} {dc dc' : Dc} {F H F' H' : Hp} {σ : L2.St} (s : SR g t ρ dc F σ H) (e : Gr g.T t.ad F H F' H') (d : DiceAt t dc' F' H') : SR g t ρ dc' F' σ H' where
  slot := fun i x h => by
    obtain ⟨v, h1, h2⟩ := s.slot i x h
    exact ⟨v, h1, h2.gr e⟩
  dist := s.dist
  gr := s.gr.trans e
  dice := d
  len := s.len
  nt := fun b ps q => by
    rcases e.new b _ q with z | z
    · exact s.nt b ps z
    · exact z.2 ps rfl
  tup := fun b xs q => by
    rcases e.tups b xs q with z | z
    · exact z
    · exact e.sub _ _ (s.tup b xs z)
theorem SR.ntT {g : Cg} {t : Ct} {ρ : Rho} {dc : Dc} {F H : Hp} {σ : L2.St} (s : SR g t ρ dc F σ H) : ∀ p ∈ g.T, F p.1 = none := fun p hp => by
  obtain ⟨ps, h⟩ := s.gr.tab.tbl hp
  cases q : F p.1 with
  | none => rfl
  | some o =>
    have z := s.gr.inc _ o q
    rw [h] at z
    cases z
    exact absurd q (s.nt _ ps)
theorem DiceAt.gr {t : Ct} {T : Tbs} {dc : Dc} {F H F' H' : Hp} (d : DiceAt t dc F H) (e : Gr T none F H F' H') : DiceAt t dc F' H' := fun a ha => by
  obtain ⟨h1, h2, h3⟩ := d a ha
  refine ⟨?_, h2, e.ext a _ h3 lst_nt (by simp)⟩
  cases q : F' a with
  | none => rfl
  | some u =>
    rcases e.new a u q with z | ⟨z, _⟩
    · rw [h1] at z; cases z
    · rw [h3] at z; cases z
/-! ### what is wanted behind a piece of code -/
def PostX (g : Cg) (t : Ct) (E : XK) (n : Str) : Prop := ∀ dx H', GrX g.T t.ad t.H0 H' → t.H0 dx = none → H' dx = some (.xd [(("name" : Str), .str n)]) → E (.ref g.C) (some dx) H'
def PostG {A α : Type} (g : Cg) (t : Ct) (E : XK) (rel : Hp → Hp → A → α → Prop) (F H : Hp) (r : Res (α × Dc)) (Q : A → Hp → Prop) : Prop := match r with
  | .ok (a, dc') => ∀ x F' H', Gr g.T t.ad F H F' H' → DiceAt t dc' F' H' → rel F' H' x a → Q x H'
  | .exn n => PostX g t E n
  | .stuck => False
def EvG {A α : Type} (g : Cg) (t : Ct) (E : XK) (rel : Hp → Hp → A → α → Prop) (tr : L2.St → Hp → (A → Hp → Prop) → Prop) (f : SM α) : Prop :=
  ∀ ρ dc F σ H Q, SR g t ρ dc F σ H → PostG g t E rel F H (f ρ dc) Q → tr σ H Q
theorem PostG.gr {A α : Type} {g : Cg} {t : Ct} {E : XK} {rel : Hp → Hp → A → α → Prop} {F H F1 H1 : Hp} {r : Res (α × Dc)} {Q : A → Hp → Prop} (e : Gr g.T t.ad F H F1 H1) (h : PostG g t E rel F H r Q) : PostG g t E rel F1 H1 r Q := by
  cases r with
  | ok a => exact fun x F' H' q => h x F' H' (e.trans q)
  | exn n => exact h
  | stuck => exact h
theorem EvG.bind {A α B β : Type} {g : Cg} {t : Ct} {E : XK} {rel1 : Hp → Hp → A → α → Prop} {rel2 : Hp → Hp → B → β → Prop} {tr : L2.St → Hp → (A → Hp → Prop) → Prop} {f : SM α} {k : α → SM β}
    {ρ : Rho} {dc : Dc} {F H : Hp} {σ : L2.St} {Q1 : A → Hp → Prop} {Q2 : B → Hp → Prop} (h : EvG g t E rel1 tr f) (s : SR g t ρ dc F σ H) (hp : PostG g t E rel2 F H (SM.bind f k ρ dc) Q2)
    (hk : ∀ x a dc1 F1 H1, Gr g.T t.ad F H F1 H1 → SR g t ρ dc1 F1 σ H1 → rel1 F1 H1 x a → PostG g t E rel2 F1 H1 (k a ρ dc1) Q2 → Q1 x H1) : tr σ H Q1 := by
  refine h ρ dc F σ H Q1 s ?_
  unfold SM.bind at hp
  cases e : f ρ dc with
  | ok a =>
    obtain ⟨a, dc1⟩ := a
    rw [e] at hp
    exact fun x F1 H1 gr d r => hk x a dc1 F1 H1 gr (s.gr' gr d) r (PostG.gr gr hp)
  | exn n => rw [e] at hp; exact hp
  | stuck => rw [e] at hp; exact hp
/-- the end of a rule -/
theorem PostG.fin {A α : Type} {g : Cg} {t : Ct} {E : XK} {rel : Hp → Hp → A → α → Prop} {ρ : Rho} {dc : Dc} {F H : Hp} {σ : L2.St} {a : α} {Q : A → Hp → Prop} {x : A} {F' H' : Hp} (s : SR g t ρ dc F σ H) (h : PostG g t E rel F H (.ok (a, dc)) Q)
    (e : Gr g.T none F H F' H') (r : rel F' H' x a) : Q x H' := h x F' H' e.weak (s.dice.gr e) r
theorem SR.inc {g : Cg} {t : Ct} {ρ : Rho} {dc : Dc} {F H : Hp} {σ : L2.St} (s : SR g t ρ dc F σ H) : ∀ b o, F b = some o → H b = some o := s.gr.inc
theorem SR.tab {g : Cg} {t : Ct} {ρ : Rho} {dc : Dc} {F H : Hp} {σ : L2.St} (s : SR g t ρ dc F σ H) : Tb g.T H := s.gr.tab
theorem SR.id {g : Cg} {t : Ct} {ρ : Rho} {dc : Dc} {F H : Hp} {σ : L2.St} (s : SR g t ρ dc F σ H) : Gr g.T none F H F H := .refl s.tab s.inc

/-! ### judgements -/
def DE (X : Cx) (g : Cg) (t : Ct) (E : XK) (e : Expr) (f : SE) : Prop := ∃ te, PE X e te ∧ EvG g t E (fun F H v x => VR g t F H v x) te f
def DT (X : Cx) (g : Cg) (t : Ct) (E : XK) (e : Expr) (f : SM Bool) : Prop := ∃ te, PT X e te ∧ EvG g t E (fun _ _ v x => v = x) te f
def DW (X : Cx) (g : Cg) (t : Ct) (E : XK) (e : Expr) (f : SM Bool) : Prop := ∃ te, PW X e te ∧ EvG g t E (fun _ _ v x => v = x) te f
inductive VRs (g : Cg) (t : Ct) (F H : Hp) : List V → List Val → Prop
  | nil : VRs g t F H [] []
  | cons {v : V} {vs : List V} {x : Val} {xs : List Val} : VR g t F H v x → VRs g t F H vs xs → VRs g t F H (v :: vs) (x :: xs)
def DA (X : Cx) (g : Cg) (t : Ct) (E : XK) (es : List Expr) (f : SM (List Val)) : Prop := ∃ te, PA X es te ∧ EvG g t E (fun F H v x => VRs g t F H v x) te f
theorem VRs.gr {g : Cg} {t : Ct} {F H F' H' : Hp} (e : Gr g.T t.ad F H F' H') : ∀ {vs : List V} {xs : List Val}, VRs g t F H vs xs → VRs g t F' H' vs xs
  | _, _, .nil => .nil
  | _, _, .cons h r => .cons (h.gr e) (VRs.gr e r)
theorem VRs.len {g : Cg} {t : Ct} {F H : Hp} : ∀ {vs : List V} {xs : List Val}, VRs g t F H vs xs → vs.length = xs.length
  | _, _, .nil => rfl
  | _, _, .cons h r => by rw [List.length_cons, List.length_cons, VRs.len r]
end DL

set_option maxHeartbeats 4000000
namespace DL
open PySem PySem.Spec PyProof.Rows L2
/-! ### combinators -/
def eVar (i : Nat) : SE := fun ρ dc => match ρ[i]? with
  | some (some x) => .ok (x, dc)
  | _ => .stuck
abbrev eP (d : PyData) : SE := SM.ret (.p d)
def eBin (f : Val → Val → Option Val) (a b : SE) : SE := SM.bind a fun x => SM.bind b fun y => SM.opt (f x y)
def eUn (f : Val → Option Val) (a : SE) : SE := SM.bind a fun x => SM.opt (f x)
def eChain (f f' : Val → Val → Option Val) (a b c : SE) : SE := SM.bind a fun x => SM.bind b fun y => SM.bind (SM.opt (f x y)) fun z => match z with
  | .p (.bool true) => SM.bind c fun w => SM.opt (f' y w)
  | .p (.bool false) => SM.ret (.p (.bool false))
  | _ => fun _ _ => .stuck
def aNil : SM (List Val) := SM.ret []
def aCons (a : SE) (r : SM (List Val)) : SM (List Val) := SM.bind a fun x => SM.bind r fun xs => SM.ret (x :: xs)
def eCall (f : List Val → Option Val) (a : SM (List Val)) : SE := SM.bind a fun xs => SM.opt (f xs)
def datas : List Val → Option (List PyData)
  | [] => some []
  | .p d :: r => (datas r).map (d :: ·)
  | _ => none
def vTup (xs : List Val) : Option Val := if xs.length ≤ 100000 then (datas xs).map fun ds => .p (.tuple ds) else none
def vLst (xs : List Val) : Option Val := if xs.length ≤ 100000 then (datas xs).map fun ds => .p (.list ds) else none
abbrev eTup (a : SM (List Val)) : SE := eCall vTup a
abbrev eLst (a : SM (List Val)) : SE := eCall vLst a
def tstV (a : SE) : SM Bool := SM.bind a fun x => match x with
  | .p (.bool b) => SM.ret b
  | _ => fun _ _ => .stuck
def tAndD (a b : SM Bool) : SM Bool := SM.bind a fun x => if x = true then b else SM.ret false
def tOrD (a b : SM Bool) : SM Bool := SM.bind a fun x => if x = true then SM.ret true else b
def tNotD (a : SM Bool) : SM Bool := SM.bind a fun x => SM.ret (!x)
def eAnd (a b : SE) : SE := SM.bind (tstV a) fun x => if x = true then b else SM.ret (.p (.bool false))
def eOr (a b : SE) : SE := SM.bind (tstV a) fun x => if x = true then SM.ret (.p (.bool true)) else b
def eNot (a : SE) : SE := SM.bind (tstV a) fun x => SM.ret (.p (.bool (!x)))
def eIf (c : SM Bool) (a b : SE) : SE := SM.bind c fun x => if x = true then a else b
/-! ### operations on values -/
def vAdd : Val → Val → Option Val
  | .p (.int i), .p (.int j) => some (.p (.int (i + j)))
  | .p (.str a), .p (.str b) => if a.length + b.length ≤ 1000 then some (.p (.str (a ++ b))) else none
  | .p (.list a), .p (.list b) => if a.length + b.length ≤ 100000 then some (.p (.list (a ++ b))) else none
  | .p (.tuple a), .p (.tuple b) => if a.length + b.length ≤ 100000 then some (.p (.tuple (a ++ b))) else none
  | _, _ => none
def vSub : Val → Val → Option Val
  | .p (.int i), .p (.int j) => some (.p (.int (i - j)))
  | _, _ => none
def vMul : Val → Val → Option Val
  | .p (.int i), .p (.int j) => if i.natAbs.log2 + j.natAbs.log2 < 1000000 then some (.p (.int (i * j))) else none
  | _, _ => none
def vDiv : Val → Val → Option Val
  | .p (.int i), .p (.int j) => if 0 < j ∧ j.natAbs.log2 < 9000 then some (.p (.int (i / j))) else none
  | _, _ => none
def vMod : Val → Val → Option Val
  | .p (.int i), .p (.int j) => if 0 < j then some (.p (.int (i % j))) else none
  | _, _ => none
def vPow : Val → Val → Option Val
  | .p (.int i), .p (.int j) => if 0 ≤ j ∧ j ≤ 1000000 ∧ i.natAbs < 2 ^ 64 then some (.p (.int (i ^ j.toNat))) else none
  | _, _ => none
def vNeg : Val → Option Val
  | .p (.int i) => some (.p (.int (-i)))
  | _ => none
def intsOf : List PyData → Option (List Int)
  | [] => some []
  | .int i :: r => (intsOf r).map (i :: ·)
  | _ => none
def vLt : Val → Val → Option Val
  | .p (.int i), .p (.int j) => some (.p (.bool (decide (i < j))))
  | .p (.tuple a), .p (.tuple b) => match intsOf a, intsOf b with
    | some a, some b => some (.p (.bool (HT.lexLt a b)))
    | _, _ => none
  | _, _ => none
def vLe : Val → Val → Option Val
  | .p (.int i), .p (.int j) => some (.p (.bool (decide (i ≤ j))))
  | _, _ => none
def vGt : Val → Val → Option Val
  | .p (.int i), .p (.int j) => some (.p (.bool (decide (j < i))))
  | _, _ => none
def vGe : Val → Val → Option Val
  | .p (.int i), .p (.int j) => some (.p (.bool (decide (j ≤ i))))
  | _, _ => none
def vEq : Val → Val → Option Val
  | .p a, .p b => if SeqAt.shaped a = true ∧ SeqAt.shaped b = true then some (.p (.bool (PyData.eqv a b))) else none
  | _, _ => none
def vNe : Val → Val → Option Val
  | .p a, .p b => if SeqAt.shaped a = true ∧ SeqAt.shaped b = true then some (.p (.bool (!PyData.eqv a b))) else none
  | _, _ => none
def vIsN : Val → Val → Option Val
  | x, .p .none => some (.p (.bool (match x with | .p .none => true | _ => false)))
  | _, _ => none
def vIsNN : Val → Val → Option Val
  | x, .p .none => some (.p (.bool (match x with | .p .none => false | _ => true)))
  | _, _ => none
/-! ### the rules of operations -/
def OpD (g : Cg) (t : Ct) (r : R2) (f : Val → Val → Option Val) : Prop := ∀ F H v u x y z Q, Tb g.T H → (∀ b o, F b = some o → H b = some o) → VR g t F H v x → VR g t F H u y → f x y = some z →
  (∀ w F' H', Gr g.T none F H F' H' → VR g t F' H' w z → Q w H') → r v u H Q
def UnD (g : Cg) (t : Ct) (r : V → Hp → VK → Prop) (f : Val → Option Val) : Prop := ∀ F H v x z Q, Tb g.T H → (∀ b o, F b = some o → H b = some o) → VR g t F H v x → f x = some z →
  (∀ w F' H', Gr g.T none F H F' H' → VR g t F' H' w z → Q w H') → r v H Q
def CallD (g : Cg) (t : Ct) (r : List V → Hp → VK → Prop) (f : List Val → Option Val) : Prop := ∀ F H vs xs z Q, Tb g.T H → (∀ b o, F b = some o → H b = some o) → VRs g t F H vs xs → f xs = some z →
  (∀ w F' H', Gr g.T none F H F' H' → VR g t F' H' w z → Q w H') → r vs H Q
section
variable {X : Cx} {g : Cg} {t : Ct} {E : XK} {a b c e : Expr} {es : List Expr} {fa fb fc : SE} {pos : Pos}
theorem PostG.opt {A α : Type} {rel : Hp → Hp → A → α → Prop} {ρ : Rho} {dc : Dc} {F H : Hp} {o : Option α} {Q : A → Hp → Prop} (h : PostG g t E rel F H (SM.opt o ρ dc) Q) : ∃ a, o = some a ∧ PostG g t E rel F H (.ok (a, dc)) Q := by
  unfold SM.opt at h
  cases o with
  | none => exact h.elim
  | some a => exact ⟨a, rfl, h⟩
theorem de_var (i : Nat) {x : Str} (hN : X.N[i]? = some x := by rfl) (hv : Vis X.env.scope x := by first | exact Or.inl rfl | exact Or.inr (Or.inl rfl) | exact Or.inr (Or.inr rfl)) (hd : (x == ("__debug__" : Str)) = false := by decide)
    (hcd : (x == ("__classdict__" : Str)) = false := by decide) : DE X g t E (.Name x pos) (eVar i) := by
  refine ⟨_, pe_var hN hv hd hcd, fun ρ dc F σ H Q s hp => ?_⟩
  unfold eVar at hp
  cases h : ρ[i]? with
  | none => rw [h] at hp; exact hp.elim
  | some o =>
    cases o with
    | none => rw [h] at hp; exact hp.elim
    | some x =>
      rw [h] at hp
      obtain ⟨v, h1, h2⟩ := s.slot i x h
      exact ⟨v, h1, PostG.fin s hp s.id h2⟩
theorem de_int {i j} : DE X g t E (.Constant (.int i) j pos) (eP (.int i)) := ⟨_, pe_int, fun ρ dc F σ H Q s hp => PostG.fin s hp s.id (R.int i)⟩
theorem de_bl {i j} : DE X g t E (.Constant (.bool i) j pos) (eP (.bool i)) := ⟨_, pe_bl, fun ρ dc F σ H Q s hp => PostG.fin s hp s.id (R.bl i)⟩
theorem de_non {j} : DE X g t E (.Constant .none j pos) (eP .none) := ⟨_, pe_non, fun ρ dc F σ H Q s hp => PostG.fin s hp s.id R.non⟩
theorem de_str {i j} : DE X g t E (.Constant (.str i) j pos) (eP (.str i)) := ⟨_, pe_str, fun ρ dc F σ H Q s hp => PostG.fin s hp s.id (R.str i)⟩
/-- a module's own int, text -/
theorem de_globI {x : Str} {i : Int} (hm : ∃ u, X.mg x = some (.int i u)) (hg : Gl X x) (hd : (x == ("__debug__" : Str)) = false := by decide) : DE X g t E (.Name x pos) (eP (.int i)) := by
  obtain ⟨u, hm⟩ := hm
  exact ⟨_, pe_glob (v := .int i) hg hm ⟨u, rfl⟩ hd, fun ρ dc F σ H Q s hp => PostG.fin s hp s.id (R.int i)⟩
theorem de_globS {x : Str} {i : Str} (hm : ∃ u, X.mg x = some (.str i u)) (hg : Gl X x) (hd : (x == ("__debug__" : Str)) = false := by decide) : DE X g t E (.Name x pos) (eP (.str i)) := by
  obtain ⟨u, hm⟩ := hm
  exact ⟨_, pe_glob (v := .str i) hg hm ⟨u, rfl⟩ hd, fun ρ dc F σ H Q s hp => PostG.fin s hp s.id (R.str i)⟩
theorem de_bin {op : Operator} {r : R2} {f : Val → Val → Option Val} (ho : OpR X (binaryOp op) r) (hd : OpD g t r f) (ha : DE X g t E a fa) (hb : DE X g t E b fb) : DE X g t E (.BinOp a op b pos) (eBin f fa fb) := by
  obtain ⟨ta, pa, ea⟩ := ha
  obtain ⟨tb, pb, eb⟩ := hb
  refine ⟨_, pe_op ho pa pb, fun ρ dc F σ H Q s hp => ?_⟩
  refine ea.bind s hp fun x xa dc1 F1 H1 g1 s1 r1 hp1 => ?_
  refine eb.bind s1 hp1 fun y yb dc2 F2 H2 g2 s2 r2 hp2 => ?_
  obtain ⟨z, hz, hp3⟩ := hp2.opt
  exact hd F2 H2 x y xa yb z Q s2.tab s2.inc (r1.gr g2) r2 hz fun w F' H' e q => PostG.fin s2 hp3 e q
theorem de_cmp {op : CmpOp} {r : R2} {f : Val → Val → Option Val} (ho : OpR X (compareOp op) r) (hd : OpD g t r f) (hm : behindInMarks op b = false) (ha : DE X g t E a fa) (hb : DE X g t E b fb) : DE X g t E (.Compare a [op] [b] pos) (eBin f fa fb) := by
  obtain ⟨ta, pa, ea⟩ := ha
  obtain ⟨tb, pb, eb⟩ := hb
  refine ⟨_, pe_cmpR ho pa pb hm, fun ρ dc F σ H Q s hp => ?_⟩
  refine ea.bind s hp fun x xa dc1 F1 H1 g1 s1 r1 hp1 => ?_
  refine eb.bind s1 hp1 fun y yb dc2 F2 H2 g2 s2 r2 hp2 => ?_
  obtain ⟨z, hz, hp3⟩ := hp2.opt
  exact hd F2 H2 x y xa yb z Q s2.tab s2.inc (r1.gr g2) r2 hz fun w F' H' e q => PostG.fin s2 hp3 e q
theorem PostG.tst {rel : Hp → Hp → Bool → Bool → Prop} {ρ : Rho} {dc : Dc} {F H : Hp} {y : Val} {Q : Bool → Hp → Prop} (h : PostG g t E rel F H ((match y with | .p (.bool b) => SM.ret b | _ => fun _ _ => Res.stuck : SM Bool) ρ dc) Q) :
    ∃ k, y = .p (.bool k) ∧ PostG g t E rel F H (.ok (k, dc)) Q := by
  cases y with
  | p d =>
    cases d with
    | bool k => exact ⟨k, rfl, h⟩
    | none => exact h.elim
    | int _ => exact h.elim
    | str _ => exact h.elim
    | list _ => exact h.elim
    | tuple _ => exact h.elim
    | dict _ => exact h.elim
  | ol _ => exact h.elim
  | fd _ => exact h.elim
  | od _ => exact h.elim
  | dice => exact h.elim
  | scr _ => exact h.elim
theorem vr_bool {F H : Hp} {v : V} {k : Bool} (h : VR g t F H v (.p (.bool k))) : v = .bl k := by
  cases (show R F v (.bool k) from h)
  rfl
theorem dt_cmp {op : CmpOp} {r : R2} {f : Val → Val → Option Val} (ho : OpR X (compareOp op) r) (hd : OpD g t r f) (hm : behindInMarks op b = false) (ha : DE X g t E a fa) (hb : DE X g t E b fb) : DT X g t E (.Compare a [op] [b] pos) (tstV (eBin f fa fb)) := by
  obtain ⟨ta, pa, ea⟩ := ha
  obtain ⟨tb, pb, eb⟩ := hb
  refine ⟨_, pt_cmpR ho pa pb hm, fun ρ dc F σ H Q s hp => ?_⟩
  have key : EvG g t E (fun F H v x => VR g t F H v x) (tOp r ta tb) (eBin f fa fb) := by
    intro ρ dc F σ H Q s hp
    refine ea.bind s hp fun x xa dc1 F1 H1 g1 s1 r1 hp1 => ?_
    refine eb.bind s1 hp1 fun y yb dc2 F2 H2 g2 s2 r2 hp2 => ?_
    obtain ⟨z, hz, hp3⟩ := hp2.opt
    exact hd F2 H2 x y xa yb z Q s2.tab s2.inc (r1.gr g2) r2 hz fun w F' H' e q => PostG.fin s2 hp3 e q
  refine key.bind s hp fun x xa dc1 F1 H1 g1 s1 r1 hp1 => ?_
  obtain ⟨k, rfl, hp2⟩ := hp1.tst
  exact ⟨k, vr_bool r1, PostG.fin s1 hp2 s1.id rfl⟩
theorem chain_ev {r r' : R2} {f f' : Val → Val → Option Val} {ta tb tc : TE} (hd : OpD g t r f) (hd' : OpD g t r' f') (ea : EvG g t E (fun F H v x => VR g t F H v x) ta fa) (eb : EvG g t E (fun F H v x => VR g t F H v x) tb fb)
    (ec : EvG g t E (fun F H v x => VR g t F H v x) tc fc) : EvG g t E (fun F H v x => VR g t F H v x) (tChain r r' ta tb tc) (eChain f f' fa fb fc) := by
  intro ρ dc F σ H Q s hp
  refine ea.bind s hp fun x xa dc1 F1 H1 g1 s1 r1 hp1 => ?_
  refine eb.bind s1 hp1 fun y yb dc2 F2 H2 g2 s2 r2 hp2 => ?_
  unfold SM.bind SM.opt at hp2
  cases hz : f xa yb with
  | none => rw [hz] at hp2; exact hp2.elim
  | some z =>
    rw [hz] at hp2
    refine hd F2 H2 x y xa yb z _ s2.tab s2.inc (r1.gr g2) r2 hz fun w F3 H3 e q => ?_
    have s3 := s2.gr' e.weak (s2.dice.gr e)
    have hp3 := PostG.gr e.weak hp2
    cases z with
    | p d =>
      cases d with
      | bool k =>
        refine ⟨k, vr_bool q, ?_⟩
        cases k with
        | true =>
          rw [if_pos rfl]
          have hp3' : PostG g t E (fun F H v x => VR g t F H v x) F3 H3 (SM.bind fc (fun w => SM.opt (f' yb w)) ρ dc2) Q := hp3
          refine ec.bind s3 hp3' fun u uc dc4 F4 H4 g4 s4 r4 hp4 => ?_
          obtain ⟨z2, hz2, hp5⟩ := hp4.opt
          exact hd' F4 H4 y u yb uc z2 Q s4.tab s4.inc ((r2.gr e.weak).gr g4) r4 hz2 fun w F' H' e q => PostG.fin s4 hp5 e q
        | false =>
          rw [if_neg Bool.false_ne_true]
          exact PostG.fin s3 hp3 s3.id (R.bl false)
      | none => exact hp3.elim
      | int _ => exact hp3.elim
      | str _ => exact hp3.elim
      | list _ => exact hp3.elim
      | tuple _ => exact hp3.elim
      | dict _ => exact hp3.elim
    | ol _ => exact hp3.elim
    | fd _ => exact hp3.elim
    | od _ => exact hp3.elim
    | dice => exact hp3.elim
    | scr _ => exact hp3.elim
theorem de_chain {op op' : CmpOp} {r r' : R2} {f f' : Val → Val → Option Val} (ho : OpR X (compareOp op) r) (hd : OpD g t r f) (ho' : OpR X (compareOp op') r') (hd' : OpD g t r' f') (ha : DE X g t E a fa) (hb : DE X g t E b fb) (hc : DE X g t E c fc)
    (hm : lastMarks [op, op'] [b, c] = false := by with_unfolding_all rfl) : DE X g t E (.Compare a [op, op'] [b, c] pos) (eChain f f' fa fb fc) := by
  obtain ⟨ta, pa, ea⟩ := ha
  obtain ⟨tb, pb, eb⟩ := hb
  obtain ⟨tc, pc, ec⟩ := hc
  exact ⟨_, pe_chain ho ho' pa pb pc hm, chain_ev hd hd' ea eb ec⟩
theorem dt_chain {op op' : CmpOp} {r r' : R2} {f f' : Val → Val → Option Val} (ho : OpR X (compareOp op) r) (hd : OpD g t r f) (ho' : OpR X (compareOp op') r') (hd' : OpD g t r' f') (ha : DE X g t E a fa) (hb : DE X g t E b fb) (hc : DE X g t E c fc)
    (hm : lastMarks [op, op'] [b, c] = false := by with_unfolding_all rfl) : DT X g t E (.Compare a [op, op'] [b, c] pos) (tstV (eChain f f' fa fb fc)) := by
  obtain ⟨ta, pa, ea⟩ := ha
  obtain ⟨tb, pb, eb⟩ := hb
  obtain ⟨tc, pc, ec⟩ := hc
  refine ⟨_, pt_chain ho ho' pa pb pc hm, fun ρ dc F σ H Q s hp => ?_⟩
  refine (chain_ev hd hd' ea eb ec).bind s hp fun x xa dc1 F1 H1 g1 s1 r1 hp1 => ?_
  obtain ⟨k, rfl, hp2⟩ := hp1.tst
  exact ⟨k, vr_bool r1, PostG.fin s1 hp2 s1.id rfl⟩
/-- an expression whose value is a truth value, as a test -/
theorem dt_val (ha : DE X g t E a fa) (he : ∀ whole, isTrue a X.env whole = (do let v ← whole; standAt a.pos; holding [v] (truthy v)) := by intro _; rfl) : DT X g t E a (tstV fa) := by
  obtain ⟨ta, pa, ea⟩ := ha
  refine ⟨_, pt_val pa he, fun ρ dc F σ H Q s hp => ?_⟩
  refine ea.bind s hp fun x xa dc1 F1 H1 g1 s1 r1 hp1 => ?_
  obtain ⟨k, rfl, hp2⟩ := hp1.tst
  exact ⟨k, vr_bool r1, PostG.fin s1 hp2 s1.id rfl⟩
variable {ra rb : SM Bool} {rest : List Expr}
theorem DW.dt (h : DW X g t E e ra) : DT X g t E e ra := by
  obtain ⟨ta, pa, ea⟩ := h
  exact ⟨ta, pa.pt, ea⟩
theorem dw_and1 (h : DT X g t E a ra) : DW X g t E (.BoolOp .And [a] pos) ra := by
  obtain ⟨ta, pa, ea⟩ := h
  exact ⟨ta, pw_and1 pa, ea⟩
theorem dw_or1 (h : DT X g t E a ra) : DW X g t E (.BoolOp .Or [a] pos) ra := by
  obtain ⟨ta, pa, ea⟩ := h
  exact ⟨ta, pw_or1 pa, ea⟩
theorem dw_and (ha : DT X g t E a ra) (hb : DW X g t E (.BoolOp .And (b :: rest) pos) rb) : DW X g t E (.BoolOp .And (a :: b :: rest) pos) (tAndD ra rb) := by
  obtain ⟨ta, pa, ea⟩ := ha
  obtain ⟨tb, pb, eb⟩ := hb
  refine ⟨_, pw_and pa pb, fun ρ dc F σ H Q s hp => ?_⟩
  refine ea.bind s hp fun x xa dc1 F1 H1 g1 s1 r1 hp1 => ?_
  subst r1
  cases x with
  | true => exact eb ρ dc1 F1 σ H1 Q s1 hp1
  | false => exact PostG.fin s1 hp1 s1.id rfl
theorem dw_or (ha : DT X g t E a ra) (hb : DW X g t E (.BoolOp .Or (b :: rest) pos) rb) : DW X g t E (.BoolOp .Or (a :: b :: rest) pos) (tOrD ra rb) := by
  obtain ⟨ta, pa, ea⟩ := ha
  obtain ⟨tb, pb, eb⟩ := hb
  refine ⟨_, pw_or pa pb, fun ρ dc F σ H Q s hp => ?_⟩
  refine ea.bind s hp fun x xa dc1 F1 H1 g1 s1 r1 hp1 => ?_
  subst r1
  cases x with
  | false => exact eb ρ dc1 F1 σ H1 Q s1 hp1
  | true => exact PostG.fin s1 hp1 s1.id rfl
theorem dt_not (ha : DT X g t E a ra) : DT X g t E (.UnaryOp .Not a pos) (tNotD ra) := by
  obtain ⟨ta, pa, ea⟩ := ha
  refine ⟨_, pt_not pa, fun ρ dc F σ H Q s hp => ?_⟩
  refine ea.bind s hp fun x xa dc1 F1 H1 g1 s1 r1 hp1 => ?_
  subst r1
  exact PostG.fin s1 hp1 s1.id rfl
theorem tst_ev {ta : TE} (ea : EvG g t E (fun F H v x => VR g t F H v x) ta fa) {ρ : Rho} {dc : Dc} {F H : Hp} {σ : L2.St} {β : Type} {B : Type} {rel : Hp → Hp → B → β → Prop} {k : Bool → SM β} {Q2 : B → Hp → Prop} {Q1 : V → Hp → Prop} (s : SR g t ρ dc F σ H)
    (hp : PostG g t E rel F H (SM.bind (tstV fa) k ρ dc) Q2) (hk : ∀ (c : Bool) dc1 F1 H1, Gr g.T t.ad F H F1 H1 → SR g t ρ dc1 F1 σ H1 → PostG g t E rel F1 H1 (k c ρ dc1) Q2 → Q1 (.bl c) H1) : ta σ H Q1 := by
  have hp' : PostG g t E rel F H (SM.bind fa (fun x => SM.bind (match x with | .p (.bool b) => SM.ret b | _ => fun _ _ => Res.stuck : SM Bool) k) ρ dc) Q2 := by
    unfold tstV SM.bind at hp
    unfold SM.bind
    cases h : fa ρ dc with
    | ok z => rw [h] at hp; exact hp
    | exn n => rw [h] at hp; exact hp
    | stuck => rw [h] at hp; exact hp
  refine ea.bind s hp' fun x xa dc1 F1 H1 g1 s1 r1 hp1 => ?_
  cases xa with
  | p d =>
    cases d with
    | bool c =>
      obtain rfl := vr_bool r1
      exact hk c dc1 F1 H1 g1 s1 hp1
    | none => exact hp1.elim
    | int _ => exact hp1.elim
    | str _ => exact hp1.elim
    | list _ => exact hp1.elim
    | tuple _ => exact hp1.elim
    | dict _ => exact hp1.elim
  | ol _ => exact hp1.elim
  | fd _ => exact hp1.elim
  | od _ => exact hp1.elim
  | dice => exact hp1.elim
  | scr _ => exact hp1.elim
theorem de_one {op} (h : DE X g t E a fa) : DE X g t E (.BoolOp op [a] pos) fa := by
  obtain ⟨ta, pa, ea⟩ := h
  exact ⟨ta, pe_one pa, ea⟩
theorem de_and (ha : DE X g t E a fa) (hb : DE X g t E (.BoolOp .And (b :: rest) pos) fb) : DE X g t E (.BoolOp .And (a :: b :: rest) pos) (eAnd fa fb) := by
  obtain ⟨ta, pa, ea⟩ := ha
  obtain ⟨tb, pb, eb⟩ := hb
  refine ⟨_, pe_and pa pb, fun ρ dc F σ H Q s hp => ?_⟩
  refine tst_ev ea s hp fun c dc1 F1 H1 g1 s1 hp1 => ⟨c, rfl, ?_⟩
  cases c with
  | true => rw [if_pos rfl]; exact eb ρ dc1 F1 σ H1 Q s1 hp1
  | false => rw [if_neg Bool.false_ne_true]; exact PostG.fin s1 hp1 s1.id (R.bl false)
theorem de_or (ha : DE X g t E a fa) (hb : DE X g t E (.BoolOp .Or (b :: rest) pos) fb) : DE X g t E (.BoolOp .Or (a :: b :: rest) pos) (eOr fa fb) := by
  obtain ⟨ta, pa, ea⟩ := ha
  obtain ⟨tb, pb, eb⟩ := hb
  refine ⟨_, pe_or pa pb, fun ρ dc F σ H Q s hp => ?_⟩
  refine tst_ev ea s hp fun c dc1 F1 H1 g1 s1 hp1 => ⟨c, rfl, ?_⟩
  cases c with
  | false => rw [if_neg Bool.false_ne_true]; exact eb ρ dc1 F1 σ H1 Q s1 hp1
  | true => rw [if_pos rfl]; exact PostG.fin s1 hp1 s1.id (R.bl true)
theorem de_not (ha : DE X g t E a fa) : DE X g t E (.UnaryOp .Not a pos) (eNot fa) := by
  obtain ⟨ta, pa, ea⟩ := ha
  refine ⟨_, pe_not pa, fun ρ dc F σ H Q s hp => ?_⟩
  refine tst_ev ea s hp fun c dc1 F1 H1 g1 s1 hp1 => ⟨c, rfl, ?_⟩
  exact PostG.fin s1 hp1 s1.id (R.bl (!c))
theorem de_if (hc : DT X g t E c ra) (ha : DE X g t E a fa) (hb : DE X g t E b fb) : DE X g t E (.IfExp c a b pos) (eIf ra fa fb) := by
  obtain ⟨tc, pc, ec⟩ := hc
  obtain ⟨ta, pa, ea⟩ := ha
  obtain ⟨tb, pb, eb⟩ := hb
  refine ⟨_, pe_ifExp pc pa pb, fun ρ dc F σ H Q s hp => ?_⟩
  refine ec.bind s hp fun x xa dc1 F1 H1 g1 s1 r1 hp1 => ?_
  subst r1
  cases x with
  | true => exact ea ρ dc1 F1 σ H1 Q s1 hp1
  | false => exact eb ρ dc1 F1 σ H1 Q s1 hp1
/-! ### argument lists, displays, calls of built-ins -/
variable {fr : SM (List Val)}
theorem da_nil : DA X g t E [] aNil := ⟨_, pa_nil, fun ρ dc F σ H Q s hp => PostG.fin s hp s.id .nil⟩
theorem da_cons (ha : DE X g t E e fa) (hr : DA X g t E es fr) (hs : starEach (e :: es) X.env = (false, eval e X.env) :: starEach es X.env := by rfl) : DA X g t E (e :: es) (aCons fa fr) := by
  obtain ⟨ta, pa, ea⟩ := ha
  obtain ⟨tr, pr, er⟩ := hr
  refine ⟨_, pa_cons pa pr hs, fun ρ dc F σ H Q s hp => ?_⟩
  refine ea.bind s hp fun x xa dc1 F1 H1 g1 s1 r1 hp1 => ?_
  refine er.bind s1 hp1 fun y yb dc2 F2 H2 g2 s2 r2 hp2 => ?_
  exact PostG.fin s2 hp2 s2.id (.cons (r1.gr g2) r2)
theorem datas_ra {F H : Hp} : ∀ {xs : List Val} {vs : List V} {ds : List PyData}, VRs g t F H vs xs → datas xs = some ds → RA F vs ds
  | [], _, ds, .nil, h => by cases h; exact .nil
  | .p d :: r, v :: vs, ds, .cons h1 h2, h => by
    unfold datas at h
    cases q : datas r with
    | none => rw [q] at h; cases h
    | some es =>
      rw [q] at h
      cases h
      exact .cons h1 (datas_ra h2 q)
  | .ol _ :: _, _, _, _, h => by cases h
  | .fd _ :: _, _, _, _, h => by cases h
  | .od _ :: _, _, _, _, h => by cases h
  | .dice :: _, _, _, _, h => by cases h
  | .scr _ :: _, _, _, _, h => by cases h
theorem sz {n : Nat} (h : n ≤ 100000) : n ≤ sizeLine := Nat.le_trans h (by decide)
theorem datas_len : ∀ {xs : List Val} {ds : List PyData}, datas xs = some ds → ds.length = xs.length
  | [], ds, h => by cases h; rfl
  | .p d :: r, ds, h => by
    unfold datas at h
    cases q : datas r with
    | none => rw [q] at h; cases h
    | some es =>
      rw [q] at h
      cases h
      rw [List.length_cons, List.length_cons, datas_len q]
  | .ol _ :: _, _, h => by cases h
  | .fd _ :: _, _, h => by cases h
  | .od _ :: _, _, h => by cases h
  | .dice :: _, _, h => by cases h
  | .scr _ :: _, _, h => by cases h
theorem de_tup {k} (h : DA X g t E es fr) : DE X g t E (.Tuple es k pos) (eTup fr) := by
  obtain ⟨ta, pa, ea⟩ := h
  refine ⟨_, pe_tup pa, fun ρ dc F σ H Q s hp => ?_⟩
  refine ea.bind s hp fun x xa dc1 F1 H1 g1 s1 r1 hp1 => ?_
  obtain ⟨z, hz, hp2⟩ := hp1.opt
  unfold vTup at hz
  split at hz
  · rename_i hl
    cases q : datas xa with
    | none => rw [q] at hz; cases hz
    | some ds =>
      rw [q] at hz
      cases hz
      refine ⟨sz (by rw [r1.len]; exact hl), fun p hp => PostG.fin s1 hp2 (Gr.frozen s1.tab s1.inc hp) ?_⟩
      exact .tup upd_same (ra_mono (Gr.frozen (T := g.T) (ad := none) s1.tab s1.inc hp).sub _ _ (datas_ra r1 q))
  · cases hz
theorem de_lst (h : DA X g t E es fr) : DE X g t E (.List es pos) (eLst fr) := by
  obtain ⟨ta, pa, ea⟩ := h
  refine ⟨_, pe_lst pa, fun ρ dc F σ H Q s hp => ?_⟩
  refine ea.bind s hp fun x xa dc1 F1 H1 g1 s1 r1 hp1 => ?_
  obtain ⟨z, hz, hp2⟩ := hp1.opt
  unfold vLst at hz
  split at hz
  · rename_i hl
    cases q : datas xa with
    | none => rw [q] at hz; cases hz
    | some ds =>
      rw [q] at hz
      cases hz
      refine ⟨sz (by rw [r1.len]; exact hl), fun p hp => PostG.fin s1 hp2 (Gr.frozen s1.tab s1.inc hp) ?_⟩
      exact .lst upd_same (ra_mono (Gr.frozen (T := g.T) (ad := none) s1.tab s1.inc hp).sub _ _ (datas_ra r1 q))
  · cases hz
theorem cb_ev {r : List V → Hp → VK → Prop} {f : List Val → Option Val} {ta : TA} (hd : CallD g t r f) (ea : EvG g t E (fun F H v x => VRs g t F H v x) ta fr) : EvG g t E (fun F H v x => VR g t F H v x) (tCB r ta) (eCall f fr) := by
  intro ρ dc F σ H Q s hp
  refine ea.bind s hp fun x xa dc1 F1 H1 g1 s1 r1 hp1 => ?_
  obtain ⟨z, hz, hp2⟩ := hp1.opt
  exact hd F1 H1 x xa z Q s1.tab s1.inc r1 hz fun w F' H' e q => PostG.fin s1 hp2 e q
theorem de_callB {x : Str} {p : Pos} {id : String} {r : List V → Hp → VK → Prop} {f : List Val → Option Val} (hc : CallR X (.builtin id) r) (hd : CallD g t r f) (hm : X.mg x = none) (hv : bootBuiltins x = some (.builtin id)) (ha : DA X g t E (e :: es) fr) (hg : Gl X x := by rfl)
    (hn : x ≠ "__name__" := by decide) (hdb : (x == ("__debug__" : Str)) = false := by decide)
    (he : starEach (e :: es) X.env = (false, eval e X.env) :: starEach es X.env := by rfl) (hpl : (backTo pos (starEach es X.env)).any (·.1) = false := by rfl) : DE X g t E (.Call (.Name x p) (e :: es) [] pos) (eCall f fr) := by
  obtain ⟨ta, pa, ea⟩ := ha
  exact ⟨_, pe_callB hc hg hm hv pa hn hdb he hpl, cb_ev hd ea⟩
theorem de_callTy {x : Str} {p : Pos} {T : String} {r : List V → Hp → VK → Prop} {f : List Val → Option Val} (hc : CallR X (.type T) r) (hd : CallD g t r f) (hm : X.mg x = none) (hv : bootBuiltins x = some (.type T)) (ha : DA X g t E (e :: es) fr) (hg : Gl X x := by rfl)
    (hn : x ≠ "__name__" := by decide) (hdb : (x == ("__debug__" : Str)) = false := by decide)
    (he : starEach (e :: es) X.env = (false, eval e X.env) :: starEach es X.env := by rfl) (hpl : (backTo pos (starEach es X.env)).any (·.1) = false := by rfl) : DE X g t E (.Call (.Name x p) (e :: es) [] pos) (eCall f fr) := by
  obtain ⟨ta, pa, ea⟩ := ha
  exact ⟨_, pe_callTy hc hg hm hv pa hn hdb he hpl, cb_ev hd ea⟩
end
end DL

set_option maxHeartbeats 4000000
namespace DL
open PySem PySem.Spec PyProof.Rows L2
section
variable {X : Cx} {g : Cg} {t : Ct} {E : XK} {F H : Hp} {v : V}
theorem vr_int {i : Int} (h : VR g t F H v (.p (.int i))) : v = .int i := by
  cases (show R F v (.int i) from h)
  rfl
theorem vr_str {i : Str} (h : VR g t F H v (.p (.str i))) : v = .str i := by
  cases (show R F v (.str i) from h)
  rfl
theorem vr_non (h : VR g t F H v (.p .none)) : v = .non := by
  cases (show R F v .none from h)
  rfl
theorem vr_tup {ds : List PyData} (h : VR g t F H v (.p (.tuple ds))) : ∃ a vs, v = .ref a ∧ F a = some (.tup vs) ∧ RA F vs ds := by
  cases (show R F v (.tuple ds) from h) with
  | tup h1 h2 => exact ⟨_, _, rfl, h1, h2⟩
theorem vr_lst {ds : List PyData} (h : VR g t F H v (.p (.list ds))) : ∃ a vs, v = .ref a ∧ F a = some (.lst vs) ∧ RA F vs ds := by
  cases (show R F v (.list ds) from h) with
  | lst h1 h2 => exact ⟨_, _, rfl, h1, h2⟩
/-- what may be read as a list -/
def lsOf : Val → Option (List PyData)
  | .p (.list ds) => some ds
  | .ol ds => some ds
  | _ => none
/-- .. as a list or a tuple -/
def sqOf : Val → Option (List PyData)
  | .p (.list ds) => some ds
  | .p (.tuple ds) => some ds
  | .ol ds => some ds
  | _ => none
theorem vr_ls (i : ∀ b o, F b = some o → H b = some o) {x : Val} {ds : List PyData} (h : VR g t F H v x) (e : lsOf x = some ds) : ∃ a vs, v = .ref a ∧ H a = some (.lst vs) ∧ RA F vs ds := by
  cases x with
  | p d =>
    cases d with
    | list es =>
      cases e
      obtain ⟨a, vs, h1, h2, h3⟩ := vr_lst h
      exact ⟨a, vs, h1, i _ _ h2, h3⟩
    | none => cases e
    | bool _ => cases e
    | int _ => cases e
    | str _ => cases e
    | tuple _ => cases e
    | dict _ => cases e
  | ol es =>
    cases e
    obtain ⟨a, vs, h1, h2, h3, h4⟩ := h
    exact ⟨a, vs, h1, h3, h4⟩
  | fd _ => cases e
  | od _ => cases e
  | dice => cases e
  | scr _ => cases e
theorem vr_sq (i : ∀ b o, F b = some o → H b = some o) {x : Val} {ds : List PyData} (h : VR g t F H v x) (e : sqOf x = some ds) : ∃ a vs, v = .ref a ∧ (H a = some (.lst vs) ∨ H a = some (.tup vs)) ∧ RA F vs ds := by
  cases x with
  | p d =>
    cases d with
    | list es =>
      cases e
      obtain ⟨a, vs, h1, h2, h3⟩ := vr_lst h
      exact ⟨a, vs, h1, .inl (i _ _ h2), h3⟩
    | tuple es =>
      cases e
      obtain ⟨a, vs, h1, h2, h3⟩ := vr_tup h
      exact ⟨a, vs, h1, .inr (i _ _ h2), h3⟩
    | none => cases e
    | bool _ => cases e
    | int _ => cases e
    | str _ => cases e
    | dict _ => cases e
  | ol es =>
    cases e
    obtain ⟨a, vs, h1, h2, h3, h4⟩ := h
    exact ⟨a, vs, h1, .inl h3, h4⟩
  | fd _ => cases e
  | od _ => cases e
  | dice => cases e
  | scr _ => cases e
theorem sq_or {K : PySem.W.Frag} {a : Addr} {vs : List V} (h : H a = some (.lst vs) ∨ H a = some (.tup vs)) : SqL K H a vs ∨ SqT K H a vs := by
  rcases h with h | h
  · exact .inl (.inl (.inl h))
  · exact .inr (.inl (.inl h))
/-! ### two ints -/
def onI (f : Int → Int → Option PyData) : Val → Val → Option Val
  | .p (.int i), .p (.int j) => (f i j).map .p
  | _, _ => none
theorem onI_some {f : Int → Int → Option PyData} {x y z : Val} (h : onI f x y = some z) : ∃ i j d, x = .p (.int i) ∧ y = .p (.int j) ∧ f i j = some d ∧ z = .p d := by
  unfold onI at h
  split at h
  · rename_i i j
    cases q : f i j with
    | none => rw [q] at h; cases h
    | some d => rw [q] at h; cases h; exact ⟨i, j, d, rfl, rfl, q, rfl⟩
  · cases h
theorem od_sub : OpD g t (rI0 fun i j => .int (i - j)) vSub := by
  intro F H v u x y z Q tb i rx ry h q
  unfold vSub at h
  split at h
  · cases h
    exact ⟨_, _, vr_int rx, vr_int ry, q _ _ _ (.refl tb i) (R.int _)⟩
  · cases h
theorem od_mul : OpD g t (rI CMulW fun i j => .int (i * j)) vMul := by
  intro F H v u x y z Q tb i rx ry h q
  unfold vMul at h
  split at h
  · split at h
    · rename_i hc
      cases h
      exact ⟨_, _, vr_int rx, vr_int ry, hc, q _ _ _ (.refl tb i) (R.int _)⟩
    · cases h
  · cases h
theorem od_div : OpD g t (rI CDivW fun i j => .int (i / j)) vDiv := by
  intro F H v u x y z Q tb i rx ry h q
  unfold vDiv at h
  split at h
  · split at h
    · rename_i hc
      cases h
      exact ⟨_, _, vr_int rx, vr_int ry, hc, q _ _ _ (.refl tb i) (R.int _)⟩
    · cases h
  · cases h
theorem od_mod : OpD g t (rI (fun _ j => 0 < j) fun i j => .int (i % j)) vMod := by
  intro F H v u x y z Q tb i rx ry h q
  unfold vMod at h
  split at h
  · split at h
    · rename_i hc
      cases h
      exact ⟨_, _, vr_int rx, vr_int ry, hc, q _ _ _ (.refl tb i) (R.int _)⟩
    · cases h
  · cases h
theorem od_pow : OpD g t (rI CPow fun i j => .int (i ^ j.toNat)) vPow := by
  intro F H v u x y z Q tb i rx ry h q
  unfold vPow at h
  split at h
  · split at h
    · rename_i hc
      cases h
      exact ⟨_, _, vr_int rx, vr_int ry, hc, q _ _ _ (.refl tb i) (R.int _)⟩
    · cases h
  · cases h
theorem ud_neg : UnD g t (rU fun i => .int (-i)) vNeg := by
  intro F H v x z Q tb i rx h q
  unfold vNeg at h
  split at h
  · cases h
    exact ⟨_, vr_int rx, q _ _ _ (.refl tb i) (R.int _)⟩
  · cases h
theorem de_neg {a : Expr} {fa : SE} {pos : Pos} (ha : DE X g t E a fa) : DE X g t E (.UnaryOp .USub a pos) (eUn vNeg fa) := by
  obtain ⟨ta, pa, ea⟩ := ha
  refine ⟨_, pe_un un_neg pa, fun ρ dc F σ H Q s hp => ?_⟩
  refine ea.bind s hp fun x xa dc1 F1 H1 g1 s1 r1 hp1 => ?_
  obtain ⟨z, hz, hp2⟩ := hp1.opt
  exact ud_neg F1 H1 x xa z Q s1.tab s1.inc r1 hz fun w F' H' e q => PostG.fin s1 hp2 e q
/-! ### + -/
def rAddD (K : PySem.W.Frag) : R2 := fun x y H Q => ((fun x y H Q => rI0 (fun i j => .int (i + j)) x y H Q ∨ ∃ i j, x = .str i ∧ y = .str j ∧ i.length + j.length ≤ sizeLine ∧ Q (.str (i ++ j)) H) x y H Q) ∨ ((fun x y H Q => rCat x y H Q ∨ rCatA K x y H Q) x y H Q)
theorem op_addD : OpR X (binaryOp .Add) (rAddD X.K) := OpR.or (OpR.or op_add op_add_str) (OpR.or op_cat op_catA)
theorem od_add {K : PySem.W.Frag} : OpD g t (rAddD K) vAdd := by
  intro F H v u x y z Q tb i rx ry h q
  unfold vAdd at h
  split at h
  · cases h
    exact .inl (.inl ⟨_, _, vr_int rx, vr_int ry, q _ _ _ (.refl tb i) (R.int _)⟩)
  · split at h
    · rename_i hl
      cases h
      exact .inl (.inr ⟨_, _, vr_str rx, vr_str ry, Nat.le_trans hl (by decide), q _ _ _ (.refl tb i) (R.str _)⟩)
    · cases h
  · split at h
    · rename_i hl
      cases h
      obtain ⟨a, xs, rfl, ha, ra⟩ := vr_lst rx
      obtain ⟨b, ys, rfl, hb, rb⟩ := vr_lst ry
      refine .inr (.inl ⟨a, b, xs, ys, rfl, rfl, i _ _ ha, i _ _ hb, sz (by rw [ra_len ra, ra_len rb]; exact hl), fun p hp => q _ _ _ (Gr.frozen tb i hp) ?_⟩)
      exact .lst upd_same (ra_mono (Gr.frozen (T := g.T) (ad := none) tb i hp).sub _ _ (ra_app ra rb))
    · cases h
  · split at h
    · rename_i hl
      cases h
      obtain ⟨a, xs, rfl, ha, ra⟩ := vr_tup rx
      obtain ⟨b, ys, rfl, hb, rb⟩ := vr_tup ry
      refine .inr (.inr ⟨a, b, xs, ys, rfl, rfl, .inl (.inl (i _ _ ha)), .inl (.inl (i _ _ hb)), sz (by rw [ra_len ra, ra_len rb]; exact hl), fun e => ?_, fun e1 e2 => ?_, fun e1 e2 p hp => q _ _ _ (Gr.frozen tb i hp) ?_⟩)
      · subst e
        cases ra
        exact q _ _ _ (.refl tb i) (R.tup hb rb)
      · subst e2
        cases rb
        rw [List.append_nil] at q
        exact q _ _ _ (.refl tb i) (R.tup ha ra)
      · exact .tup upd_same (ra_mono (Gr.frozen (T := g.T) (ad := none) tb i hp).sub _ _ (ra_app ra rb))
    · cases h
  · cases h
/-! ### comparisons -/
theorem od_le : OpD g t (rI0 fun i j => .bl (decide (i ≤ j))) vLe := by
  intro F H v u x y z Q tb i rx ry h q
  unfold vLe at h
  split at h
  · cases h
    exact ⟨_, _, vr_int rx, vr_int ry, q _ _ _ (.refl tb i) (R.bl _)⟩
  · cases h
theorem od_gt : OpD g t (rI0 fun i j => .bl (decide (j < i))) vGt := by
  intro F H v u x y z Q tb i rx ry h q
  unfold vGt at h
  split at h
  · cases h
    exact ⟨_, _, vr_int rx, vr_int ry, q _ _ _ (.refl tb i) (R.bl _)⟩
  · cases h
theorem od_ge : OpD g t (rI0 fun i j => .bl (decide (j ≤ i))) vGe := by
  intro F H v u x y z Q tb i rx ry h q
  unfold vGe at h
  split at h
  · cases h
    exact ⟨_, _, vr_int rx, vr_int ry, q _ _ _ (.refl tb i) (R.bl _)⟩
  · cases h
theorem intsOf_map : ∀ {ds : List PyData} {ns : List Int}, intsOf ds = some ns → ds = ns.map .int
  | [], ns, h => by cases h; rfl
  | .int i :: r, ns, h => by
    unfold intsOf at h
    cases q : intsOf r with
    | none => rw [q] at h; cases h
    | some es => rw [q] at h; cases h; rw [List.map_cons, intsOf_map q]
  | .none :: _, _, h => by cases h
  | .bool _ :: _, _, h => by cases h
  | .str _ :: _, _, h => by cases h
  | .list _ :: _, _, h => by cases h
  | .tuple _ :: _, _, h => by cases h
  | .dict _ :: _, _, h => by cases h
theorem intsOf_of : ∀ ns : List Int, intsOf (ns.map .int) = some ns
  | [] => rfl
  | n :: r => by
    show (intsOf (r.map .int)).map (n :: ·) = _
    rw [intsOf_of r]
    rfl
def rLtD (K : PySem.W.Frag) : R2 := fun x y H Q => rI0 (fun i j => .bl (decide (i < j))) x y H Q ∨ rLtT K x y H Q
theorem op_ltD {k : Nat} (hr : Room k X.A) : OpR X (compareOp .Lt) (rLtD X.K) := OpR.or op_lt (op_ltT hr.units0)
theorem od_lt {K : PySem.W.Frag} : OpD g t (rLtD K) vLt := by
  intro F H v u x y z Q tb i rx ry h q
  unfold vLt at h
  split at h
  · cases h
    exact .inl ⟨_, _, vr_int rx, vr_int ry, q _ _ _ (.refl tb i) (R.bl _)⟩
  · split at h
    · rename_i a b ea eb
      cases h
      obtain ⟨p, xs, rfl, ha, ra⟩ := vr_tup rx
      obtain ⟨p', ys, rfl, hb, rb⟩ := vr_tup ry
      rw [intsOf_map ea] at ra
      rw [intsOf_map eb] at rb
      obtain rfl := ra_ints ra
      obtain rfl := ra_ints rb
      exact .inr ⟨p, p', _, _, rfl, rfl, .inl (.inl (i _ _ ha)), .inl (.inl (i _ _ hb)), q _ _ _ (.refl tb i) (R.bl _)⟩
    · cases h
  · cases h
theorem op_eqX {k : Nat} (hr : Room k X.A) : OpR X (compareOp .Eq) (rEqD X.K) := op_eqD hr.units
theorem op_neX {k : Nat} (hr : Room k X.A) : OpR X (compareOp .NotEq) (rNeD X.K) := op_neD hr.units
theorem od_eq {K : PySem.W.Frag} : OpD g t (rEqD K) vEq := by
  intro F H v u x y z Q tb i rx ry h q
  unfold vEq at h
  split at h
  · split at h
    · rename_i hs
      cases h
      exact ⟨_, _, r_dp i _ _ rx, r_dp i _ _ ry, hs.1, hs.2, q _ _ _ (.refl tb i) (R.bl _)⟩
    · cases h
  · cases h
theorem od_ne {K : PySem.W.Frag} : OpD g t (rNeD K) vNe := by
  intro F H v u x y z Q tb i rx ry h q
  unfold vNe at h
  split at h
  · split at h
    · rename_i hs
      cases h
      exact ⟨_, _, r_dp i _ _ rx, r_dp i _ _ ry, hs.1, hs.2, q _ _ _ (.refl tb i) (R.bl _)⟩
    · cases h
  · cases h
theorem vr_ne_non {x : Val} (h : VR g t F H v x) (n : x ≠ .p .none) : v ≠ .non := by
  rintro rfl
  cases x with
  | p d =>
    cases d with
    | none => exact n rfl
    | bool _ => cases (show R F _ _ from h)
    | int _ => cases (show R F _ _ from h)
    | str _ => cases (show R F _ _ from h)
    | list _ => cases (show R F _ _ from h)
    | tuple _ => cases (show R F _ _ from h)
    | dict _ => cases (show R F _ _ from h)
  | ol ds => obtain ⟨a, vs, h1, _⟩ := h; cases h1
  | fd ds => obtain ⟨a, _, h1, _⟩ := h; cases h1
  | od ds => obtain ⟨a, h1, _⟩ := h; cases h1
  | dice => obtain ⟨a, h1, _⟩ := h; cases h1
  | scr _ => obtain ⟨a, h1, _⟩ := h; cases h1
theorem od_isN : OpD g t (fun x y H Q => y = .non ∧ Q (.bl (decide (x = .non))) H) vIsN := by
  intro F H v u x y z Q tb i rx ry h q
  unfold vIsN at h
  split at h
  · cases h
    refine ⟨vr_non ry, ?_⟩
    refine q _ _ _ (.refl tb i) ?_
    split
    · obtain rfl := vr_non rx
      exact R.bl true
    · rename_i n
      rw [decide_eq_false (vr_ne_non rx n)]
      exact R.bl false
  · cases h
theorem od_isNN : OpD g t (fun x y H Q => y = .non ∧ Q (.bl (!decide (x = .non))) H) vIsNN := by
  intro F H v u x y z Q tb i rx ry h q
  unfold vIsNN at h
  split at h
  · cases h
    refine ⟨vr_non ry, ?_⟩
    refine q _ _ _ (.refl tb i) ?_
    split
    · obtain rfl := vr_non rx
      exact R.bl false
    · rename_i n
      rw [decide_eq_false (vr_ne_non rx n)]
      exact R.bl true
  · cases h
/-! ### in -/
/-- x in a list or tuple of ints -/
def vInI : Val → Val → Option Val
  | .p (.int i), y => match (sqOf y).bind intsOf with
    | some ns => some (.p (.bool (ns.any (· == i))))
    | none => none
  | _, _ => none
def vNotInI : Val → Val → Option Val
  | .p (.int i), y => match (sqOf y).bind intsOf with
    | some ns => some (.p (.bool (!ns.any (· == i))))
    | none => none
  | _, _ => none
theorem inV_ints (i : Int) : ∀ ns : List Int, inV (.int i) (ns.map V.int) = ns.any (· == i)
  | [] => rfl
  | n :: r => by
    show (eqV (.int n) (.int i) || inV (.int i) (r.map V.int)) = _
    rw [inV_ints i r]
    rfl
theorem flat_ints : ∀ ns : List Int, (ns.map V.int).all flatV = true
  | [] => rfl
  | n :: r => by
    show (flatV (.int n) && (r.map V.int).all flatV) = true
    rw [flat_ints r]
    rfl
theorem sqInts {F H : Hp} {u : V} {y : Val} {ns : List Int} (i : ∀ b o, F b = some o → H b = some o) (ry : VR g t F H u y) (e : (sqOf y).bind intsOf = some ns) : ∃ a, u = .ref a ∧ (H a = some (.lst (ns.map V.int)) ∨ H a = some (.tup (ns.map V.int))) := by
  cases e1 : sqOf y with
  | none => rw [e1] at e; cases e
  | some ds =>
    rw [e1] at e
    obtain ⟨a, vs, h1, h2, h3⟩ := vr_sq i ry e1
    have e' : intsOf ds = some ns := e
    rw [intsOf_map e'] at h3
    obtain rfl := ra_ints h3
    exact ⟨a, h1, h2⟩
theorem od_inI {K : PySem.W.Frag} : OpD g t (rIn K false) vInI := by
  intro F H v u x y z Q tb i rx ry h q
  unfold vInI at h
  split at h
  · split at h
    · rename_i ns e
      cases h
      obtain ⟨a, rfl, ha⟩ := sqInts i ry e
      obtain rfl := vr_int rx
      refine ⟨a, _, rfl, sq_or ha, rfl, flat_ints ns, ?_⟩
      rw [if_neg Bool.false_ne_true, inV_ints]
      exact q _ _ _ (.refl tb i) (R.bl _)
    · cases h
  · cases h
theorem od_notInI {K : PySem.W.Frag} : OpD g t (rIn K true) vNotInI := by
  intro F H v u x y z Q tb i rx ry h q
  unfold vNotInI at h
  split at h
  · split at h
    · rename_i ns e
      cases h
      obtain ⟨a, rfl, ha⟩ := sqInts i ry e
      obtain rfl := vr_int rx
      refine ⟨a, _, rfl, sq_or ha, rfl, flat_ints ns, ?_⟩
      rw [if_pos rfl, inV_ints]
      exact q _ _ _ (.refl tb i) (R.bl _)
    · cases h
  · cases h
/-- x in a list of data -/
def vInD : Val → Val → Option Val
  | .p d, y => match lsOf y with
    | some ds => if SeqAt.shaped d = true ∧ SeqAt.shaped (.list ds) = true then some (.p (.bool (ds.any fun z => PyData.eqv z d))) else none
    | none => none
  | _, _ => none
def vNotInD : Val → Val → Option Val
  | .p d, y => match lsOf y with
    | some ds => if SeqAt.shaped d = true ∧ SeqAt.shaped (.list ds) = true then some (.p (.bool (!ds.any fun z => PyData.eqv z d))) else none
    | none => none
  | _, _ => none
theorem op_inX {k : Nat} (hr : Room k X.A) : OpR X (compareOp .In) (rInD X.K) := op_inD (by have := hr.un; omega)
theorem op_notInX {k : Nat} (hr : Room k X.A) : OpR X (compareOp .NotIn) (rNotInD X.K) := op_notInD (by have := hr.un; omega)
theorem od_inD {K : PySem.W.Frag} : OpD g t (rInD K) vInD := by
  intro F H v u x y z Q tb i rx ry h q
  unfold vInD at h
  split at h
  · split at h
    · rename_i ds e
      split at h
      · rename_i hs
        cases h
        obtain ⟨a, vs, rfl, ha, hr⟩ := vr_ls i ry e
        exact ⟨_, _, r_dp i _ _ rx, .lst (.inl (.inl ha)) (ra_dp i _ _ hr), hs.1, hs.2, q _ _ _ (.refl tb i) (R.bl _)⟩
      · cases h
    · cases h
  · cases h
theorem od_notInD {K : PySem.W.Frag} : OpD g t (rNotInD K) vNotInD := by
  intro F H v u x y z Q tb i rx ry h q
  unfold vNotInD at h
  split at h
  · split at h
    · rename_i ds e
      split at h
      · rename_i hs
        cases h
        obtain ⟨a, vs, rfl, ha, hr⟩ := vr_ls i ry e
        exact ⟨_, _, r_dp i _ _ rx, .lst (.inl (.inl ha)) (ra_dp i _ _ hr), hs.1, hs.2, q _ _ _ (.refl tb i) (R.bl _)⟩
      · cases h
    · cases h
  · cases h
/-! ### subscripts -/
def vIx : Val → Val → Option Val
  | x, .p (.int i) => match sqOf x with
    | some ds => (atI ds i).map .p
    | none => none
  | _, _ => none
theorem ra_at {vs : List V} {ds : List PyData} {i : Int} {d : PyData} (h : RA F vs ds) (e : atI ds i = some d) : ∃ w, atI vs i = some w ∧ R F w d := by
  unfold atI at e ⊢
  rw [ra_len h]
  cases q : ixN ds.length i with
  | none => rw [q] at e; cases e
  | some j =>
    rw [q] at e
    exact ra_get h e
def rIxD (K : PySem.W.Frag) : R2 := fun x y H Q => rIxL K x y H Q ∨ rIxT K x y H Q
theorem ix_D : IxR X (rIxD X.K) := IxR.or ix_list ix_tup
theorem od_ix {K : PySem.W.Frag} : OpD g t (rIxD K) vIx := by
  intro F H v u x y z Q tb i rx ry h q
  unfold vIx at h
  split at h
  · rename_i j
    split at h
    · rename_i ds e
      cases e2 : atI ds j with
      | none => rw [e2] at h; cases h
      | some d =>
        rw [e2] at h
        cases h
        obtain ⟨a, vs, rfl, ha, hr⟩ := vr_sq i rx e
        obtain ⟨w, hw, rw'⟩ := ra_at hr e2
        obtain rfl := vr_int ry
        rcases ha with ha | ha
        · exact .inl ⟨a, vs, j, w, rfl, rfl, .inl (.inl ha), hw, q _ _ _ (.refl tb i) rw'⟩
        · exact .inr ⟨a, vs, j, w, rfl, rfl, .inl (.inl ha), hw, q _ _ _ (.refl tb i) rw'⟩
    · cases h
  · cases h
theorem de_ix {a b : Expr} {fa fb : SE} {pos : Pos} (ha : DE X g t E a fa) (hb : DE X g t E b fb) (hs : PlainIx b := by exact fun _ _ => rfl) : DE X g t E (.Subscript a b pos) (eBin vIx fa fb) := by
  obtain ⟨ta, pa, ea⟩ := ha
  obtain ⟨tb, pb, eb⟩ := hb
  refine ⟨_, pe_ix ix_D pa pb hs, fun ρ dc F σ H Q s hp => ?_⟩
  refine ea.bind s hp fun x xa dc1 F1 H1 g1 s1 r1 hp1 => ?_
  refine eb.bind s1 hp1 fun y yb dc2 F2 H2 g2 s2 r2 hp2 => ?_
  obtain ⟨z, hz, hp3⟩ := hp2.opt
  exact od_ix F2 H2 x y xa yb z Q s2.tab s2.inc (r1.gr g2) r2 hz fun w F' H' e q => PostG.fin s2 hp3 e q
/-! ### slices with written parts -/
def cutD (ds : List PyData) (lo hi : Option Int) : List PyData := (ds.drop (HT.sIx ds.length 0 lo)).take (HT.sIx ds.length ds.length hi - HT.sIx ds.length 0 lo)
theorem ra_cut {vs : List V} {ds : List PyData} (h : RA F vs ds) (lo hi : Option Int) : RA F (cutV vs lo hi) (cutD ds lo hi) := by
  unfold cutV cutD
  rw [ra_len h]
  exact ra_take _ (ra_drop _ h)
def vCut (lo hi : Option Int) : Val → Option Val
  | .p (.list ds) => some (.p (.list (cutD ds lo hi)))
  | .ol ds => some (.p (.list (cutD ds lo hi)))
  | .p (.tuple ds) => some (.p (.tuple (cutD ds lo hi)))
  | _ => none
def rCutD (K : PySem.W.Frag) : V → Option Int → Option Int → Hp → VK → Prop := fun x lo hi H Q => rSlL K x lo hi H Q ∨ rSlA K x lo hi H Q
theorem cut_whole {ds : List PyData} {lo hi : Option Int} (h : HT.sIx ds.length 0 lo = 0 ∧ HT.sIx ds.length ds.length hi = ds.length) : cutD ds lo hi = ds := by
  unfold cutD
  rw [h.1, h.2, List.drop_zero, Nat.sub_zero, List.take_length]
theorem cutR {K : PySem.W.Frag} {x z : Val} {lo hi : Option Int} {Q : VK} (tb : Tb g.T H) (i : ∀ b o, F b = some o → H b = some o) (rx : VR g t F H v x) (h : vCut lo hi x = some z)
    (q : ∀ w F' H', Gr g.T none F H F' H' → VR g t F' H' w z → Q w H') : rCutD K v lo hi H Q := by
  have aux : ∀ {ds : List PyData}, lsOf x = some ds → z = .p (.list (cutD ds lo hi)) → rCutD K v lo hi H Q := by
    intro ds e ez
    subst ez
    obtain ⟨a, vs, rfl, ha, hr⟩ := vr_ls i rx e
    refine .inl ⟨a, vs, rfl, .inl (.inl ha), fun p hp => q _ _ _ (Gr.frozen tb i hp) ?_⟩
    exact .lst upd_same (ra_mono (Gr.frozen (T := g.T) (ad := none) tb i hp).sub _ _ (ra_cut hr lo hi))
  unfold vCut at h
  split at h
  · cases h
    exact aux rfl rfl
  · cases h
    exact aux rfl rfl
  · cases h
    obtain ⟨a, vs, rfl, ha, hr⟩ := vr_tup rx
    refine .inr ⟨a, vs, rfl, .inl (.inl (i _ _ ha)), fun hw => ?_, fun _ p hp => q _ _ _ (Gr.frozen tb i hp) ?_⟩
    · rw [ra_len hr] at hw
      rw [cut_whole hw] at q
      exact q _ _ _ (.refl tb i) (R.tup ha hr)
    · exact .tup upd_same (ra_mono (Gr.frozen (T := g.T) (ad := none) tb i hp).sub _ _ (ra_cut hr lo hi))
  · cases h
/-- x[k:] -/
theorem de_cutL {a : Expr} {fa : SE} {k : Int} {j : Nat} {p1 p2 pos : Pos} (ha : DE X g t E a fa) : DE X g t E (.Subscript a (.Slice (some (.Constant (.int k) j p1)) none none p2) pos) (eUn (vCut (some k) none) fa) := by
  obtain ⟨ta, pa, ea⟩ := ha
  refine ⟨_, pe_slice (r := rCutD X.K) (SlR.or sl_list sl_tupA) pa (po_some pe_int) po_none, fun ρ dc F σ H Q s hp => ?_⟩
  refine ea.bind s hp fun x xa dc1 F1 H1 g1 s1 r1 hp1 => ?_
  obtain ⟨z, hz, hp2⟩ := hp1.opt
  exact ⟨k, rfl, cutR s1.tab s1.inc r1 hz fun w F' H' e q => PostG.fin s1 hp2 e q⟩
/-- x[:k] -/
theorem de_cutR {a : Expr} {fa : SE} {k : Int} {j : Nat} {p1 p2 pos : Pos} (ha : DE X g t E a fa) : DE X g t E (.Subscript a (.Slice none (some (.Constant (.int k) j p1)) none p2) pos) (eUn (vCut none (some k)) fa) := by
  obtain ⟨ta, pa, ea⟩ := ha
  refine ⟨_, pe_slice (r := rCutD X.K) (SlR.or sl_list sl_tupA) pa po_none (po_some pe_int), fun ρ dc F σ H Q s hp => ?_⟩
  refine ea.bind s hp fun x xa dc1 F1 H1 g1 s1 r1 hp1 => ?_
  obtain ⟨z, hz, hp2⟩ := hp1.opt
  exact ⟨k, rfl, cutR s1.tab s1.inc r1 hz fun w F' H' e q => PostG.fin s1 hp2 e q⟩
/-! ### isinstance -/
def tyN : Val → String
  | .p .none => "NoneType"
  | .p (.bool _) => "bool"
  | .p (.int _) => "int"
  | .p (.str _) => "str"
  | .p (.list _) => "list"
  | .p (.tuple _) => "tuple"
  | .p (.dict _) => "dict"
  | .ol _ => "list"
  | .fd _ => "dict"
  | .od _ => "dict"
  | .dice => "?"
  | .scr _ => "?"
theorem vr_ty {K : PySem.W.Frag} {x : Val} (i : ∀ b o, F b = some o → H b = some o) (h : VR g t F H v x) (n : x ≠ .dice) (n2 : ∀ ns, x ≠ .scr ns) (n3 : ∀ ds, x ≠ .fd ds) : TyX K H v (.type (tyN x)) := by
  cases x with
  | p d =>
    cases d with
    | none => obtain rfl := vr_non h; exact .base .non
    | bool b => obtain rfl := vr_bool h; exact .base (.bl b)
    | int b => obtain rfl := vr_int h; exact .base (.int b)
    | str b => obtain rfl := vr_str h; exact .base (.str b)
    | list ds => obtain ⟨a, vs, rfl, h1, _⟩ := vr_lst h; exact .base (.lst (i _ _ h1))
    | tuple ds => obtain ⟨a, vs, rfl, h1, _⟩ := vr_tup h; exact .base (.tup (i _ _ h1))
    | dict _ => cases (show R F _ _ from h)
  | ol ds => obtain ⟨a, vs, rfl, _, h1, _⟩ := h; exact .base (.lst h1)
  | fd ds => exact absurd rfl (n3 ds)
  | od ds => obtain ⟨a, rfl, _, h1⟩ := h; exact .base (.dT h1)
  | dice => exact absurd rfl n
  | scr ns => exact absurd rfl (n2 ns)
def vIsi (T : String) (x : Val) : Option Val := match x with
  | .fd _ => none
  | .dice => none
  | .scr _ => none
  | x => (kitB (tyN x) T).map fun b => .p (.bool b)
theorem de_isi {e : Expr} {fe : SE} {T : String} {Ts : Str} {p1 p2 pos : Pos} (hm : X.mg "isinstance" = none) (hmT : X.mg Ts = none) (hv : bootBuiltins Ts = some (.type T)) (ha : DE X g t E e fe) (hg : Gl X "isinstance" := by rfl) (hgT : Gl X Ts := by rfl)
    (hn : Ts ≠ "__name__" := by decide) (hdb : (Ts == ("__debug__" : Str)) = false := by decide)
    (he : starEach (e :: [.Name Ts p2]) X.env = (false, eval e X.env) :: starEach [.Name Ts p2] X.env := by rfl) (hpl : (backTo pos (starEach [.Name Ts p2] X.env)).any (·.1) = false := by rfl)
    (hst : starEach [.Name Ts p2] X.env = (false, eval (.Name Ts p2) X.env) :: starEach [] X.env := by rfl) :
    DE X g t E (.Call (.Name "isinstance" p1) [e, .Name Ts p2] [] pos) (eUn (vIsi T) fe) := by
  obtain ⟨ta, pa, ea⟩ := ha
  refine ⟨_, pe_callB call_isi hg hm (by decide +kernel) (pa_cons pa (pa_cons (pe_bltn (v := .ty T) hgT hmT hv rfl hn hdb) pa_nil hst) he) (by decide) (by decide) he hpl, fun ρ dc F σ H Q s hp => ?_⟩
  refine ea.bind s hp fun x xa dc1 F1 H1 g1 s1 r1 hp1 => ?_
  obtain ⟨z, hz, hp2⟩ := hp1.opt
  have nd : xa ≠ .dice := by rintro rfl; cases hz
  have nd2 : ∀ ns, xa ≠ .scr ns := by rintro ns rfl; cases hz
  have nd3 : ∀ ds, xa ≠ .fd ds := by rintro ns rfl; cases hz
  have hz' : (kitB (tyN xa) T).map (fun b => Val.p (.bool b)) = some z := by
    unfold vIsi at hz
    split at hz
    · cases hz
    · cases hz
    · cases hz
    · exact hz
  cases e1 : kitB (tyN xa) T with
  | none => rw [e1] at hz'; cases hz'
  | some b =>
    rw [e1] at hz'
    cases hz'
    exact ⟨x, .ty T, .type (tyN xa), .type T, b, rfl, .ty T, vr_ty s1.inc r1 nd nd2 nd3, kit_ty e1, PostG.fin s1 hp2 s1.id (R.bl b)⟩
/-! ### built-in calls -/
def vLen : List Val → Option Val
  | [.p (.str x)] => if x.length ≤ 100000 then some (.p (.int x.length)) else none
  | [.fd kvs] => some (.p (.int kvs.length))
  | [.od kvs] => some (.p (.int kvs.length))
  | [x] => (sqOf x).map fun ds => .p (.int ds.length)
  | _ => none
def rLenR : List V → Hp → VK → Prop := fun xs H Q => ∃ (p : Addr) (kvs : List (List Key × V)), xs = [.ref p] ∧ Rd H p (.dT kvs) ∧ Q (.int ((kvs.length : Nat) : Int)) H
theorem call_len_dR : CallR X (.builtin "len") rLenR := by
  intro pins s σ H xs us Q I r h
  obtain ⟨p, kvs, e1, hp, q⟩ := h
  subst e1
  obtain ⟨u, e2, rx⟩ := vals1 r
  subst e2
  obtain rfl : u = .ref p := rx
  obtain ⟨hz, hs, ys, kt, dh⟩ := dt_rd I.hok hp
  have e3 : kvs.length = ys.length := Paired.length kt
  refine PySem.call_len_dictH hs dh (by rw [← e3]; rw [sizeLine_eq] at hz; omega) ?_
  rw [← e3]
  exact ⟨.int ((kvs.length : Nat) : Int), H, I.tok _, ⟨_, rfl⟩, q⟩
def rLenD (K : PySem.W.Frag) : List V → Hp → VK → Prop := fun xs H Q => (∃ x n, xs = [x] ∧ LenV K x H n ∧ Q (.int n) H) ∨ rLenR xs H Q
theorem call_lenX : CallR X (.builtin "len") (rLenD X.K) := CallR.or call_len call_len_dR
theorem kT_len (kvs : PD) : (kT kvs).length = kvs.length := by unfold kT; rw [List.length_map]
theorem cd_len {K : PySem.W.Frag} : CallD g t (rLenD K) vLen := by
  intro F H vs xs z Q tb i r h q
  unfold vLen at h
  split at h
  · split at h
    · rename_i hl
      cases h
      cases r with
      | cons r1 r2 =>
        cases r2
        obtain rfl := vr_str r1
        exact .inl ⟨_, _, rfl, ⟨sz hl, rfl⟩, q _ _ _ (.refl tb i) (R.int _)⟩
    · cases h
  · cases h
    cases r with
    | cons r1 r2 =>
      cases r2
      obtain ⟨a, o, rfl, h1⟩ := r1
      refine .inr ⟨a, _, rfl, .inr ⟨o, i _ _ h1⟩, ?_⟩
      rw [kT_len]
      exact q _ _ _ (.refl tb i) (R.int _)
  · cases h
    cases r with
    | cons r1 r2 =>
      cases r2
      obtain ⟨a, rfl, _, h1⟩ := r1
      refine .inr ⟨a, _, rfl, .inl h1, ?_⟩
      rw [kT_len]
      exact q _ _ _ (.refl tb i) (R.int _)
  · rename_i x _ _ _
    cases e : sqOf x with
    | none => rw [e] at h; cases h
    | some ds =>
      rw [e] at h
      cases h
      cases r with
      | cons r1 r2 =>
        cases r2
        obtain ⟨a, vs, rfl, ha, hr⟩ := vr_sq i r1 e
        have q' := q _ _ _ (.refl tb i) (R.int _)
        rw [← ra_len hr] at q'
        refine .inl ⟨_, vs.length, rfl, ?_, q'⟩
        rcases ha with ha | ha
        · exact .inl ⟨vs, .inl (.inl ha), rfl⟩
        · exact .inr ⟨vs, .inl (.inl ha), rfl⟩
  · cases h
def vAbs : List Val → Option Val
  | [.p (.int i)] => some (.p (.int (if i < 0 then -i else i)))
  | _ => none
theorem cd_abs : CallD g t (fun xs H Q => ∃ i, xs = [.int i] ∧ Q (.int (if i < 0 then -i else i)) H) vAbs := by
  intro F H vs xs z Q tb i r h q
  unfold vAbs at h
  split at h
  · cases h
    cases r with
    | cons r1 r2 =>
      cases r2
      obtain rfl := vr_int r1
      exact ⟨_, rfl, q _ _ _ (.refl tb i) (R.int _)⟩
  · cases h
def vInt1 : List Val → Option Val
  | [.p (.int i)] => some (.p (.int i))
  | _ => none
theorem cd_int : CallD g t (fun xs H Q => (∃ i, xs = [.int i] ∧ Q (.int i) H) ∨ ∃ k, xs = [.bl k] ∧ Q (.int (if k then 1 else 0)) H) vInt1 := by
  intro F H vs xs z Q tb i r h q
  unfold vInt1 at h
  split at h
  · cases h
    cases r with
    | cons r1 r2 =>
      cases r2
      obtain rfl := vr_int r1
      exact .inl ⟨_, rfl, q _ _ _ (.refl tb i) (R.int _)⟩
  · cases h
def vMax2 : List Val → Option Val
  | [.p (.int i), .p (.int j)] => some (.p (.int (if j > i then j else i)))
  | _ => none
def vMin2 : List Val → Option Val
  | [.p (.int i), .p (.int j)] => some (.p (.int (if j < i then j else i)))
  | _ => none
theorem cd_max2 : CallD g t (fun xs H Q => ∃ i j, xs = [.int i, .int j] ∧ Q (.int (if j > i then j else i)) H) vMax2 := by
  intro F H vs xs z Q tb i r h q
  unfold vMax2 at h
  split at h
  · cases h
    cases r with
    | cons r1 r2 =>
      cases r2 with
      | cons r2 r3 =>
        cases r3
        obtain rfl := vr_int r1
        obtain rfl := vr_int r2
        exact ⟨_, _, rfl, q _ _ _ (.refl tb i) (R.int _)⟩
  · cases h
theorem cd_min2 : CallD g t (fun xs H Q => ∃ i j, xs = [.int i, .int j] ∧ Q (.int (if j < i then j else i)) H) vMin2 := by
  intro F H vs xs z Q tb i r h q
  unfold vMin2 at h
  split at h
  · cases h
    cases r with
    | cons r1 r2 =>
      cases r2 with
      | cons r2 r3 =>
        cases r3
        obtain rfl := vr_int r1
        obtain rfl := vr_int r2
        exact ⟨_, _, rfl, q _ _ _ (.refl tb i) (R.int _)⟩
  · cases h
def vSum : List Val → Option Val
  | [x] => ((lsOf x).bind intsOf).map fun ns => .p (.int ns.sum)
  | _ => none
theorem lsInts {F H : Hp} {u : V} {y : Val} {ns : List Int} (i : ∀ b o, F b = some o → H b = some o) (ry : VR g t F H u y) (e : (lsOf y).bind intsOf = some ns) : ∃ a, u = .ref a ∧ H a = some (.lst (ns.map V.int)) := by
  cases e1 : lsOf y with
  | none => rw [e1] at e; cases e
  | some ds =>
    rw [e1] at e
    obtain ⟨a, vs, h1, h2, h3⟩ := vr_ls i ry e1
    have e' : intsOf ds = some ns := e
    rw [intsOf_map e'] at h3
    obtain rfl := ra_ints h3
    exact ⟨a, h1, h2⟩
theorem cd_sum {K : PySem.W.Frag} : CallD g t (rSum K) vSum := by
  intro F H vs xs z Q tb i r h q
  unfold vSum at h
  split at h
  · rename_i x
    cases e : (lsOf x).bind intsOf with
    | none => rw [e] at h; cases h
    | some ns =>
      rw [e] at h
      cases h
      cases r with
      | cons r1 r2 =>
        cases r2
        obtain ⟨a, rfl, ha⟩ := lsInts i r1 e
        exact ⟨a, ns, rfl, .inl (.inl ha), q _ _ _ (.refl tb i) (R.int _)⟩
  · cases h
/-- the greatest of a list that isn't empty -/
def mxI : List Int → Int
  | [] => 0
  | [x] => x
  | x :: y :: r => max x (mxI (y :: r))
theorem mxI_ge : ∀ (l : List Int) (y : Int), y ∈ l → y ≤ mxI l
  | [], _, h => by cases h
  | [x], y, h => by
    rw [List.mem_singleton.mp h]
    exact Int.le_refl _
  | x :: z :: r, y, h => by
    show y ≤ max x (mxI (z :: r))
    rcases List.mem_cons.mp h with rfl | h
    · omega
    · have := mxI_ge (z :: r) y h
      omega
theorem mxI_mem : ∀ (l : List Int), l ≠ [] → mxI l ∈ l
  | [], h => absurd rfl h
  | [x], _ => List.mem_singleton.mpr rfl
  | x :: z :: r, _ => by
    have := mxI_mem (z :: r) (by simp)
    show max x (mxI (z :: r)) ∈ _
    by_cases c : x ≤ mxI (z :: r)
    · rw [Int.max_eq_right c]
      exact List.mem_cons_of_mem _ this
    · rw [Int.max_eq_left (by omega)]
      exact List.mem_cons_self
def vMaxL : List Val → Option Val
  | [x] => match (lsOf x).bind intsOf with
    | some (n :: ns) => some (.p (.int (mxI (n :: ns))))
    | _ => none
  | _ => none
theorem cd_maxL {K : PySem.W.Frag} : CallD g t (rMax K) vMaxL := by
  intro F H vs xs z Q tb i r h q
  unfold vMaxL at h
  split at h
  · split at h
    · rename_i x n ns e
      cases h
      cases r with
      | cons r1 r2 =>
        cases r2
        obtain ⟨a, rfl, ha⟩ := lsInts i r1 e
        refine ⟨a, n :: ns, rfl, .inl (.inl ha), Nat.succ_pos _, fun m hm hle => ?_⟩
        have e1 : m = mxI (n :: ns) := by
          have h1 := mxI_ge (n :: ns) m hm
          have h2 := hle _ (mxI_mem (n :: ns) (by simp))
          omega
        rw [e1]
        exact q _ _ _ (.refl tb i) (R.int _)
    · cases h
  · cases h
def boolsOf : List PyData → Option (List Bool)
  | [] => some []
  | .bool i :: r => (boolsOf r).map (i :: ·)
  | _ => none
theorem boolsOf_map : ∀ {ds : List PyData} {ns : List Bool}, boolsOf ds = some ns → ds = ns.map .bool
  | [], ns, h => by cases h; rfl
  | .bool i :: r, ns, h => by
    unfold boolsOf at h
    cases q : boolsOf r with
    | none => rw [q] at h; cases h
    | some es => rw [q] at h; cases h; rw [List.map_cons, boolsOf_map q]
  | .none :: _, _, h => by cases h
  | .int _ :: _, _, h => by cases h
  | .str _ :: _, _, h => by cases h
  | .list _ :: _, _, h => by cases h
  | .tuple _ :: _, _, h => by cases h
  | .dict _ :: _, _, h => by cases h
theorem boolsOf_of : ∀ ns : List Bool, boolsOf (ns.map .bool) = some ns
  | [] => rfl
  | n :: r => by
    show (boolsOf (r.map .bool)).map (n :: ·) = _
    rw [boolsOf_of r]
    rfl
def vAllL : List Val → Option Val
  | [x] => ((lsOf x).bind boolsOf).map fun ns => .p (.bool (ns.all id))
  | _ => none
def vAnyL : List Val → Option Val
  | [x] => ((lsOf x).bind boolsOf).map fun ns => .p (.bool (ns.any id))
  | _ => none
theorem lsBools {F H : Hp} {u : V} {y : Val} {ns : List Bool} (i : ∀ b o, F b = some o → H b = some o) (ry : VR g t F H u y) (e : (lsOf y).bind boolsOf = some ns) : ∃ a, u = .ref a ∧ H a = some (.lst (ns.map V.bl)) := by
  cases e1 : lsOf y with
  | none => rw [e1] at e; cases e
  | some ds =>
    rw [e1] at e
    obtain ⟨a, vs, h1, h2, h3⟩ := vr_ls i ry e1
    have e' : boolsOf ds = some ns := e
    rw [boolsOf_map e'] at h3
    obtain rfl := ra_bools h3
    exact ⟨a, h1, h2⟩
theorem cd_all {K : PySem.W.Frag} : CallD g t (rAll K) vAllL := by
  intro F H vs xs z Q tb i r h q
  unfold vAllL at h
  split at h
  · rename_i x
    cases e : (lsOf x).bind boolsOf with
    | none => rw [e] at h; cases h
    | some ns =>
      rw [e] at h
      cases h
      cases r with
      | cons r1 r2 =>
        cases r2
        obtain ⟨a, rfl, ha⟩ := lsBools i r1 e
        exact ⟨a, ns, rfl, .inl (.inl ha), q _ _ _ (.refl tb i) (R.bl _)⟩
  · cases h
theorem cd_any {K : PySem.W.Frag} : CallD g t (rAny K) vAnyL := by
  intro F H vs xs z Q tb i r h q
  unfold vAnyL at h
  split at h
  · rename_i x
    cases e : (lsOf x).bind boolsOf with
    | none => rw [e] at h; cases h
    | some ns =>
      rw [e] at h
      cases h
      cases r with
      | cons r1 r2 =>
        cases r2
        obtain ⟨a, rfl, ha⟩ := lsBools i r1 e
        exact ⟨a, ns, rfl, .inl (.inl ha), q _ _ _ (.refl tb i) (R.bl _)⟩
  · cases h
def vTuple1 : List Val → Option Val
  | [.p (.tuple ds)] => some (.p (.tuple ds))
  | [x] => (lsOf x).map fun ds => .p (.tuple ds)
  | _ => none
theorem cd_tuple {K : PySem.W.Frag} : CallD g t (fun xs H Q => ∃ p ys, xs = [.ref p] ∧ ((SqL K H p ys ∧ ∀ l, H l = none → Q (.ref l) (upd H l (.tup ys))) ∨ (SqT K H p ys ∧ Q (.ref p) H))) vTuple1 := by
  intro F H vs xs z Q tb i r h q
  unfold vTuple1 at h
  split at h
  · cases h
    cases r with
    | cons r1 r2 =>
      cases r2
      obtain ⟨a, vs, rfl, h1, h2⟩ := vr_tup r1
      exact ⟨a, vs, rfl, .inr ⟨.inl (.inl (i _ _ h1)), q _ _ _ (.refl tb i) (R.tup h1 h2)⟩⟩
  · rename_i x _
    cases e : lsOf x with
    | none => rw [e] at h; cases h
    | some ds =>
      rw [e] at h
      cases h
      cases r with
      | cons r1 r2 =>
        cases r2
        obtain ⟨a, vs, rfl, ha, hr⟩ := vr_ls i r1 e
        refine ⟨a, vs, rfl, .inl ⟨.inl (.inl ha), fun p hp => q _ _ _ (Gr.frozen tb i hp) ?_⟩⟩
        exact .tup upd_same (ra_mono (Gr.frozen (T := g.T) (ad := none) tb i hp).sub _ _ hr)
  · cases h
/-- list(range(n)), tuple(range(n)) -/
def rgD (n : Int) : List PyData := (List.range n.toNat).map fun i => .int (i : Nat)
def vLstRg : Val → Option Val
  | .p (.int n) => if 0 ≤ n ∧ n ≤ 100000 then some (.p (.list (rgD n))) else none
  | _ => none
def vTupRg : Val → Option Val
  | .p (.int n) => if 0 ≤ n ∧ n ≤ 100000 then some (.p (.tuple (rgD n))) else none
  | _ => none
theorem ra_rg (n : Int) : RA F (rgV 0 n) (rgD n) := by
  unfold rgV rgD
  rw [Int.sub_zero]
  have : ∀ l : List Nat, RA F (l.map fun (i : Nat) => V.int (0 + (i : Int))) (l.map fun (i : Nat) => PyData.int (i : Int)) := by
    intro l
    induction l with
    | nil => exact .nil
    | cons a l ih =>
      rw [List.map_cons, List.map_cons, Int.zero_add]
      exact .cons (.int _) ih
  exact this _
theorem de_listRg {a : Expr} {fa : SE} {p1 p2 q1 pos : Pos} (hm : X.mg "list" = none) (hmr : X.mg "range" = none) (ha : DE X g t E a fa) (hc : X.calm = true := by rfl) (hg : Gl X "list" := by rfl) (hgr : Gl X "range" := by rfl)
    (na : starEach [a] X.env = (false, eval a X.env) :: starEach [] X.env := by rfl) (nb : starEach [.Call (.Name "range" p1) [a] [] p2] X.env = (false, eval (.Call (.Name "range" p1) [a] [] p2) X.env) :: starEach [] X.env := by rfl) :
    DE X g t E (.Call (.Name "list" q1) [.Call (.Name "range" p1) [a] [] p2] [] pos) (eUn vLstRg fa) := by
  obtain ⟨ta, pa, ea⟩ := ha
  refine ⟨_, pe_listRg hc hg hm (prg_1 hgr hmr pa na) nb, fun ρ dc F σ H Q s hp => ?_⟩
  refine ea.bind s hp fun x xa dc1 F1 H1 g1 s1 r1 hp1 => ?_
  obtain ⟨z, hz, hp2⟩ := hp1.opt
  unfold vLstRg at hz
  split at hz
  · split at hz
    · rename_i hb
      cases hz
      obtain rfl := vr_int r1
      refine ⟨_, rfl, RgOk.of_le (by omega) (by omega) (by omega) (by omega), fun p hp => PostG.fin s1 hp2 (Gr.frozen s1.tab s1.inc hp) ?_⟩
      exact .lst upd_same (ra_rg _)
    · cases hz
  · cases hz
theorem de_tupRg {a : Expr} {fa : SE} {p1 p2 q1 pos : Pos} (hm : X.mg "tuple" = none) (hmr : X.mg "range" = none) (ha : DE X g t E a fa) (hc : X.calm = true := by rfl) (hg : Gl X "tuple" := by rfl) (hgr : Gl X "range" := by rfl)
    (na : starEach [a] X.env = (false, eval a X.env) :: starEach [] X.env := by rfl) (nb : starEach [.Call (.Name "range" p1) [a] [] p2] X.env = (false, eval (.Call (.Name "range" p1) [a] [] p2) X.env) :: starEach [] X.env := by rfl) :
    DE X g t E (.Call (.Name "tuple" q1) [.Call (.Name "range" p1) [a] [] p2] [] pos) (eUn vTupRg fa) := by
  obtain ⟨ta, pa, ea⟩ := ha
  refine ⟨_, pe_tupRg hc hg hm (prg_1 hgr hmr pa na) nb, fun ρ dc F σ H Q s hp => ?_⟩
  refine ea.bind s hp fun x xa dc1 F1 H1 g1 s1 r1 hp1 => ?_
  obtain ⟨z, hz, hp2⟩ := hp1.opt
  unfold vTupRg at hz
  split at hz
  · split at hz
    · rename_i hb
      cases hz
      obtain rfl := vr_int r1
      refine ⟨_, rfl, RgOk.of_le (by omega) (by omega) (by omega) (by omega), fun p hp => PostG.fin s1 hp2 (Gr.frozen s1.tab s1.inc hp) ?_⟩
      exact .tup upd_same (ra_rg _)
    · cases hz
  · cases hz
/-- t * k, t a tuple -/
def vRep : Val → Val → Option Val
  | .p (.tuple ds), .p (.int k) => if ds ≠ [] ∧ 2 ≤ k ∧ k ≤ 1000 ∧ ds.length ≤ 1000 then some (.p (.tuple (List.replicate k.toNat ds).flatten)) else none
  | _, _ => none
theorem ra_rep {vs : List V} {ds : List PyData} (h : RA F vs ds) : ∀ n : Nat, RA F (List.replicate n vs).flatten (List.replicate n ds).flatten
  | 0 => .nil
  | n + 1 => by
    rw [List.replicate_succ, List.replicate_succ, List.flatten_cons, List.flatten_cons]
    exact ra_app h (ra_rep h n)
theorem od_rep {K : PySem.W.Frag} : OpD g t (rRepT K) vRep := by
  intro F H v u x y z Q tb i rx ry h q
  unfold vRep at h
  split at h
  · split at h
    · rename_i hc
      cases h
      obtain ⟨a, xs, rfl, ha, ra⟩ := vr_tup rx
      obtain rfl := vr_int ry
      refine ⟨a, _, xs, rfl, rfl, .inl (.inl (i _ _ ha)), ?_, hc.2.1, hc.2.2.1, by rw [ra_len ra]; exact hc.2.2.2, fun p hp => q _ _ _ (Gr.frozen tb i hp) ?_⟩
      · rintro rfl
        cases ra
        exact hc.1 rfl
      · exact .tup upd_same (ra_mono (Gr.frozen (T := g.T) (ad := none) tb i hp).sub _ _ (ra_rep ra _))
    · cases h
  · cases h
end
end DL

set_option maxHeartbeats 4000000
namespace DL
open PySem PySem.Spec PyProof.Rows L2
/-! ### statements -/
inductive Fl where
  | nx
  | bk
  | rt (v : Val)
abbrev SS := Rho → Dc → Res (Fl × Rho × Dc)
def PostS (g : Cg) (t : Ct) (E : XK) (F : Hp) (r : Res (Fl × Rho × Dc)) (D : Ends) : Prop := match r with
  | .ok (.nx, ρ', dc') => ∀ F' σ' H', (∀ b o, F b = some o → F' b = some o) → SR g t ρ' dc' F' σ' H' → D.nx σ' H'
  | .ok (.bk, ρ', dc') => ∀ F' σ' H', (∀ b o, F b = some o → F' b = some o) → SR g t ρ' dc' F' σ' H' → D.bk σ' H'
  | .ok (.rt x, _, dc') => ∀ v F' H', Gr g.T t.ad t.F0 t.H0 F' H' → DiceAt t dc' F' H' → VRf g t F' H' v x → D.rt v H'
  | .exn n => PostX g t E n
  | .stuck => False
def DS (X : Cx) (g : Cg) (t : Ct) (E : XK) (st : Stmt) (f : SS) : Prop := ∃ ts, PS X st ts ∧ ∀ ρ dc F σ H D, SR g t ρ dc F σ H → PostS g t E F (f ρ dc) D → ts D σ H
def DSs (X : Cx) (g : Cg) (t : Ct) (E : XK) (st : List Stmt) (f : SS) : Prop := ∃ ts, PSs X st ts ∧ ∀ ρ dc F σ H D, SR g t ρ dc F σ H → PostS g t E F (f ρ dc) D → ts D σ H
theorem PostS.mono {g : Cg} {t : Ct} {E : XK} {F F1 : Hp} {r : Res (Fl × Rho × Dc)} {D : Ends} (e : ∀ b o, F b = some o → F1 b = some o) (h : PostS g t E F r D) : PostS g t E F1 r D := by
  cases r with
  | ok a =>
    obtain ⟨fl, ρ', dc'⟩ := a
    cases fl with
    | nx => exact fun F' σ' H' q => h F' σ' H' fun b o z => q b o (e b o z)
    | bk => exact fun F' σ' H' q => h F' σ' H' fun b o z => q b o (e b o z)
    | rt x => exact h
  | exn n => exact h
  | stuck => exact h
/-- an expression, then what follows -/
def SM.thn {α : Type} (m : SM α) (k : α → SS) : SS := fun ρ dc => match m ρ dc with
  | .ok (a, dc') => k a ρ dc'
  | .exn n => .exn n
  | .stuck => .stuck
theorem EvG.thn {A α : Type} {g : Cg} {t : Ct} {E : XK} {rel1 : Hp → Hp → A → α → Prop} {tr : L2.St → Hp → (A → Hp → Prop) → Prop} {f : SM α} {k : α → SS}
    {ρ : Rho} {dc : Dc} {F H : Hp} {σ : L2.St} {Q1 : A → Hp → Prop} {D : Ends} (h : EvG g t E rel1 tr f) (s : SR g t ρ dc F σ H) (hp : PostS g t E F (SM.thn f k ρ dc) D)
    (hk : ∀ x a dc1 F1 H1, Gr g.T t.ad F H F1 H1 → SR g t ρ dc1 F1 σ H1 → rel1 F1 H1 x a → PostS g t E F1 (k a ρ dc1) D → Q1 x H1) : tr σ H Q1 := by
  refine h ρ dc F σ H Q1 s ?_
  unfold SM.thn at hp
  cases e : f ρ dc with
  | ok a =>
    obtain ⟨a, dc1⟩ := a
    rw [e] at hp
    exact fun x F1 H1 gr d r => hk x a dc1 F1 H1 gr (s.gr' gr d) r (PostS.mono gr.sub hp)
  | exn n => rw [e] at hp; exact hp
  | stuck => rw [e] at hp; exact hp
def sNx : SS := fun ρ dc => .ok (.nx, ρ, dc)
def sStuck : SS := fun _ _ => .stuck
def sSeq (a b : SS) : SS := fun ρ dc => match a ρ dc with
  | .ok (.nx, ρ', dc') => b ρ' dc'
  | r => r
/-! ### storing in slots -/
def Val.frz : Val → Option Val
  | .p d => some (.p d)
  | .fd d => some (.fd d)
  | _ => none
theorem SR.set {g : Cg} {t : Ct} {ρ : Rho} {dc : Dc} {F H : Hp} {σ : L2.St} {i : Nat} {v : V} {x : Val} (s : SR g t ρ dc F σ H) (h : VR g t F H v x)
    (hd : ∀ (j : Nat) y w, j ≠ i → ρ[j]? = some (some y) → y.own = true → x.own = true → σ[j]? = some (some w) → w ≠ v) : SR g t (ρ.set i (some x)) dc F (σ.set i (some v)) H where
  slot := fun j y e => by
    by_cases hj : j = i
    · subst hj
      have hl : j < ρ.length := by
        have := (List.getElem?_eq_some_iff.mp e).1
        rwa [List.length_set] at this
      rw [List.getElem?_set_self hl] at e
      cases e
      exact ⟨v, List.getElem?_set_self (by rw [← s.len]; exact hl), h⟩
    · rw [List.getElem?_set_ne (Ne.symm hj)] at e ⊢
      exact s.slot j y e
  dist := fun j k y z w hjk e1 e2 o1 o2 e3 e4 => by
    have hσ : ∀ (m : Nat), m ≠ i → (σ.set i (some v))[m]? = σ[m]? := fun m hm => List.getElem?_set_ne (Ne.symm hm)
    have hρ : ∀ (m : Nat), m ≠ i → (ρ.set i (some x))[m]? = ρ[m]? := fun m hm => List.getElem?_set_ne (Ne.symm hm)
    have at_i : ∀ {m : Nat} {y : Val} {w : V}, m = i → (ρ.set i (some x))[m]? = some (some y) → (σ.set i (some v))[m]? = some (some w) → y = x ∧ w = v := by
      intro m y w hm e e'
      subst hm
      have hl : m < ρ.length := by
        have := (List.getElem?_eq_some_iff.mp e).1
        rwa [List.length_set] at this
      rw [List.getElem?_set_self hl] at e
      rw [List.getElem?_set_self (by rw [← s.len]; exact hl)] at e'
      cases e; cases e'
      exact ⟨rfl, rfl⟩
    by_cases hj : j = i
    · have hk : k ≠ i := fun z => hjk (hj.trans z.symm)
      obtain ⟨rfl, rfl⟩ := at_i hj e1 e3
      rw [hρ k hk] at e2
      rw [hσ k hk] at e4
      exact hd k z w hk e2 o2 o1 e4 rfl
    · by_cases hk : k = i
      · obtain ⟨rfl, rfl⟩ := at_i hk e2 e4
        rw [hρ j hj] at e1
        rw [hσ j hj] at e3
        exact hd j y w hj e1 o1 o2 e3 rfl
      · rw [hρ j hj] at e1
        rw [hρ k hk] at e2
        rw [hσ j hj] at e3
        rw [hσ k hk] at e4
        exact s.dist j k y z w hjk e1 e2 o1 o2 e3 e4
  gr := s.gr
  dice := s.dice
  len := by rw [List.length_set, List.length_set]; exact s.len
  nt := s.nt
  tup := s.tup
theorem Val.frz_own {x y : Val} (h : x.frz = some y) : y.own = false ∧ y = x := by
  cases x <;> cases h <;> exact ⟨rfl, rfl⟩
theorem SR.setF {g : Cg} {t : Ct} {ρ : Rho} {dc : Dc} {F H : Hp} {σ : L2.St} {i : Nat} {v : V} {x y : Val} (s : SR g t ρ dc F σ H) (h : VR g t F H v x) (f : x.frz = some y) : SR g t (ρ.set i (some y)) dc F (σ.set i (some v)) H := by
  obtain ⟨o, rfl⟩ := Val.frz_own f
  exact s.set h fun _ _ _ _ _ _ z => by rw [o] at z; cases z
/-- forget slots -/
def wipeR (ρ : Rho) : List Nat → Rho
  | [] => ρ
  | v :: vs => (wipeR ρ vs).set v none
theorem SR.unset {g : Cg} {t : Ct} {ρ : Rho} {dc : Dc} {F H : Hp} {σ : L2.St} {i : Nat} (s : SR g t ρ dc F σ H) : SR g t (ρ.set i none) dc F (σ.set i none) H where
  slot := fun j y e => by
    by_cases hj : j = i
    · subst hj
      have hl : j < ρ.length := by
        have := (List.getElem?_eq_some_iff.mp e).1
        rwa [List.length_set] at this
      rw [List.getElem?_set_self hl] at e
      cases e
    · rw [List.getElem?_set_ne (Ne.symm hj)] at e ⊢
      exact s.slot j y e
  dist := fun j k y z w hjk e1 e2 o1 o2 e3 e4 => by
    have hn : ∀ {m : Nat} {y : Val}, (ρ.set i none)[m]? = some (some y) → m ≠ i := by
      intro m y e hm
      subst hm
      have hl : m < ρ.length := by
        have := (List.getElem?_eq_some_iff.mp e).1
        rwa [List.length_set] at this
      rw [List.getElem?_set_self hl] at e
      cases e
    rw [List.getElem?_set_ne (Ne.symm (hn e1))] at e3
    rw [List.getElem?_set_ne (Ne.symm (hn e2))] at e4
    have j' := hn e1
    have k' := hn e2
    rw [List.getElem?_set_ne (Ne.symm j')] at e1
    rw [List.getElem?_set_ne (Ne.symm k')] at e2
    exact s.dist j k y z w hjk e1 e2 o1 o2 e3 e4
  gr := s.gr
  dice := s.dice
  len := by rw [List.length_set, List.length_set]; exact s.len
  nt := s.nt
  tup := s.tup
theorem SR.wipe {g : Cg} {t : Ct} {ρ : Rho} {dc : Dc} {F H : Hp} {σ : L2.St} (s : SR g t ρ dc F σ H) : ∀ vs : List Nat, SR g t (wipeR ρ vs) dc F (L2.wipe σ vs) H
  | [] => s
  | v :: vs => (s.wipe vs).unset
/-! ### targets -/
def Only (is : List Nat) (σ σ' : L2.St) : Prop := σ'.length = σ.length ∧ ∀ j, j ∉ is → σ'[j]? = σ[j]?
theorem wipe_at {σ : L2.St} {j : Nat} : ∀ {vs : List Nat}, (L2.wipe σ vs)[j]? = if j ∈ vs ∧ j < σ.length then some none else σ[j]?
  | [] => by simp [L2.wipe]
  | v :: vs => by
    unfold L2.wipe
    by_cases hj : v = j
    · subst hj
      by_cases hl : v < σ.length
      · rw [List.getElem?_set_self (by rw [wipe_length]; exact hl), if_pos ⟨List.mem_cons_self, hl⟩]
      · rw [if_neg (fun z => hl z.2), List.getElem?_eq_none (by rw [List.length_set, wipe_length]; omega), List.getElem?_eq_none (by omega)]
    · rw [List.getElem?_set_ne hj, wipe_at]
      have : (j ∈ v :: vs ∧ j < σ.length) ↔ (j ∈ vs ∧ j < σ.length) := by
        rw [List.mem_cons]
        constructor
        · rintro ⟨h1 | h1, h2⟩
          · exact absurd h1.symm hj
          · exact ⟨h1, h2⟩
        · rintro ⟨h1, h2⟩
          exact ⟨.inr h1, h2⟩
      simp only [this]
theorem Only.wipe {is vs : List Nat} {σ σ' : L2.St} (o : Only is σ σ') (h : ∀ i ∈ is, i ∈ vs) : L2.wipe σ' vs = L2.wipe σ vs := by
  apply List.ext_getElem?
  intro j
  rw [wipe_at, wipe_at, o.1]
  by_cases hj : j ∈ vs ∧ j < σ.length
  · rw [if_pos hj, if_pos hj]
  · rw [if_neg hj, if_neg hj]
    by_cases hi : j ∈ is
    · have hl : ¬ j < σ.length := fun z => hj ⟨h j hi, z⟩
      rw [List.getElem?_eq_none (by rw [o.1]; omega), List.getElem?_eq_none (by omega)]
    · exact o.2 j hi
theorem Only.trans {is js : List Nat} {σ σ1 σ2 : L2.St} (a : Only is σ σ1) (b : Only js σ1 σ2) : Only (is ++ js) σ σ2 :=
  ⟨b.1.trans a.1, fun j hj => by
    rw [List.mem_append, not_or] at hj
    rw [b.2 j hj.2, a.2 j hj.1]⟩
theorem Only.set (σ : L2.St) (i : Nat) (x : Option V) : Only [i] σ (σ.set i x) := ⟨List.length_set, fun j hj => List.getElem?_set_ne (fun z => hj (by rw [z]; exact List.mem_singleton.mpr rfl))⟩
abbrev Tg := PyData → Rho → Option Rho
def tgN (i : Nat) : Tg := fun d ρ => some (ρ.set i (some (.p d)))
def setAll : List Nat → List PyData → Rho → Option Rho
  | [], [], ρ => some ρ
  | i :: is, d :: ds, ρ => setAll is ds (ρ.set i (some (.p d)))
  | _, _, _ => none
def tgT (is : List Nat) : Tg := fun d ρ => match d with
  | .tuple ds => setAll is ds ρ
  | _ => none
def DG (X : Cx) (g : Cg) (t : Ct) (tg : Expr) (is : List Nat) (f : Tg) : Prop := ∃ gg, PG X tg gg ∧ ∀ d ρ ρ' dc F σ H v Q, SR g t ρ dc F σ H → R F v d → f d ρ = some ρ' → (∀ σ', Only is σ σ' → SR g t ρ' dc F σ' H → Q σ' H) → gg v σ H Q
def DGs (X : Cx) (g : Cg) (t : Ct) (tgs : List Expr) (is : List Nat) : Prop := ∃ gg, PGs X tgs gg ∧ ∀ ds ρ ρ' dc F σ H vs Q, SR g t ρ dc F σ H → RA F vs ds → setAll is ds ρ = some ρ' → (∀ σ', Only is σ σ' → SR g t ρ' dc F σ' H → Q σ' H) → gg vs σ H Q
section
variable {X : Cx} {g : Cg} {t : Ct} {E : XK} {pos : Pos}
theorem dg_name {i : Nat} {x : Str} (hN : X.N.Nodup) (hi : X.N[i]? = some x := by rfl) (hx : Loc X.env.scope x := by first | exact Or.inl rfl | exact Or.inr rfl) (hf : X.fn x = true ∨ X.env.scope.names.lookup x = some .local := by first | exact .inl rfl | exact .inr rfl | assumption) : DG X g t (.Name x pos) [i] (tgN i) := by
  refine ⟨_, pg_name hN hi hx hf, fun d ρ ρ' dc F σ H v Q s r h q => ?_⟩
  cases h
  exact q _ (Only.set σ i _) (s.setF (x := .p d) r rfl)
theorem dgs_nil : DGs X g t [] [] := by
  refine ⟨_, pgs_nil, fun ds ρ ρ' dc F σ H vs Q s r h q => ?_⟩
  cases ds with
  | nil =>
    cases h
    cases r
    exact ⟨rfl, q σ ⟨rfl, fun _ _ => rfl⟩ s⟩
  | cons d ds => cases h
theorem dgs_cons {i : Nat} {is : List Nat} {e : Expr} {es : List Expr} (h1 : DG X g t e [i] (tgN i)) (h2 : DGs X g t es is) (hs : (assignEach (e :: es) X.env).map (·.2) = assign e X.env :: (assignEach es X.env).map (·.2) := by rfl) : DGs X g t (e :: es) (i :: is) := by
  obtain ⟨g1, p1, e1⟩ := h1
  obtain ⟨g2, p2, e2⟩ := h2
  refine ⟨_, pgs_cons p1 p2 hs, fun ds ρ ρ' dc F σ H vs Q s r h q => ?_⟩
  cases ds with
  | nil => cases h
  | cons d ds =>
    cases r with
    | cons r1 r2 =>
      refine ⟨_, _, rfl, e1 d ρ _ dc F σ H _ _ s r1 rfl fun σ1 o1 s1 => ?_⟩
      exact e2 ds _ ρ' dc F σ1 H _ Q s1 r2 h fun σ2 o2 s2 => q σ2 (o1.trans o2) s2
theorem dg_tup {es : List Expr} {k n : Nat} {is : List Nat} (h : DGs X g t es is) (hc : X.calm = true := by rfl) (hn : (assignEach es X.env).length = n := by rfl) (hl : is.length = n := by rfl) (hst : (assignEach es X.env).findIdx? (·.1) = none := by rfl) : DG X g t (.Tuple es k pos) is (tgT is) := by
  obtain ⟨gg, pp, ee⟩ := h
  refine ⟨_, pg_tup hc pp hn hst, fun d ρ ρ' dc F σ H v Q s r h q => ?_⟩
  unfold tgT at h
  split at h
  · rename_i ds
    obtain ⟨a, vs, rfl, ha, hr⟩ := vr_tup (g := g) (t := t) (H := H) (show VR g t F H v (.p (.tuple ds)) from r)
    have len : ∀ (is : List Nat) (ds : List PyData) (ρ ρ' : Rho), setAll is ds ρ = some ρ' → ds.length = is.length := by
      intro is
      induction is with
      | nil =>
        intro ds ρ ρ' h
        cases ds with
        | nil => rfl
        | cons d ds => cases h
      | cons i is ih =>
        intro ds ρ ρ' h
        cases ds with
        | nil => cases h
        | cons d ds => rw [List.length_cons, List.length_cons, ih ds _ _ h]
    exact ⟨a, vs, rfl, .inl (.inl (s.inc _ _ ha)), by rw [ra_len hr, len _ _ _ _ h, hl], ee ds ρ ρ' dc F σ H vs Q s hr h q⟩
  · cases h
/-! ### what is walked -/
def Wk (P : Hp → Hp → Prop) (J : It) (xs : List PyData) : Prop := ∀ F1 H1, P F1 H1 → (∀ b o, F1 b = some o → H1 b = some o) → ∀ (i : Nat), (∀ d, xs[i]? = some d → J.go i H1 ∧ ∀ x H', J.yld i H1 x H' → H' = H1 ∧ R F1 x d) ∧ (xs.length ≤ i → J.stop i H1)
/-- walked by a for -/
def DI (X : Cx) (g : Cg) (t : Ct) (E : XK) (tg e : Expr) (f : SM (List PyData)) : Prop := ∃ wi, PI X tg e wi ∧ EvG g t E (fun F _ J xs => Wk (fun F1 _ => ∀ b o, F b = some o → F1 b = some o) J xs) wi f
/-- walked by a comprehension -/
def DIc (X : Cx) (g : Cg) (t : Ct) (E : XK) (tg e : Expr) (f : SM (List PyData)) : Prop := ∃ wi, PI X tg e wi ∧ EvG g t E (fun F H J xs => Wk (fun F1 H1 => Gr g.T t.ad F H F1 H1) J xs) wi f
def iSq (K : PySem.W.Frag) (tl : TE) : TI := fun σ H R => tl σ H fun x H1 => ∃ a, x = .ref a ∧ (((∃ xs, SqL K H1 a xs) ∧ R (Itl K a) H1) ∨ ((∃ xs, SqT K H1 a xs) ∧ R (Itt K a) H1))
theorem pi_sq {tg l : Expr} {tl : TE} (hl : PE X l tl) : PI X tg l (iSq X.K tl) := by
  refine ⟨fun pins s σ H R I h => ?_⟩
  refine thn (hl.run pins s σ H _ I h) fun v s1 ⟨x, H1, I1, r1, q1⟩ => ?_
  obtain ⟨a, e, q⟩ := q1
  subst e
  cases r1
  rcases q with ⟨⟨xs, hq⟩, q⟩ | ⟨⟨xs, hq⟩, q⟩
  · obtain ⟨its, rv, p, hz⟩ := I1.list hq
    refine wpAny_pyIter_list p.isList ?_
    refine ⟨s1.heap.objs.size, [s1.heap.objs.size], _, _, H1, rfl, I1.kept (t' := s1.toks) fun b o e => Heap.get?_push_of_some _ e, turn_list a _, ⟨_, Heap.get?_push_size _ rfl, rfl, rfl⟩, fun b hb => ?_, q⟩
    have e : b = s1.heap.objs.size := by simpa using hb
    subst e
    exact I1.fpOk (Nat.le_refl _) (I1.hok.fresh (Nat.le_refl _))
  · obtain ⟨its, rv, p, hz⟩ := I1.tuple hq
    refine wpAny_pyIter_tuple (show s1.heap.IsTuple a its.toArray from p) ?_
    refine ⟨s1.heap.objs.size, [s1.heap.objs.size], _, _, H1, rfl, I1.kept (t' := s1.toks) fun b o e => Heap.get?_push_of_some _ e, turn_tuple a _, ⟨_, Heap.get?_push_size _ rfl, rfl, rfl⟩, fun b hb => ?_, q⟩
    have e : b = s1.heap.objs.size := by simpa using hb
    subst e
    exact I1.fpOk (Nat.le_refl _) (I1.hok.fresh (Nat.le_refl _))
theorem wk_list {K : PySem.W.Frag} {P : Hp → Hp → Prop} {a : Addr} {vs : List V} {ds : List PyData} (h : ∀ F1 H1, P F1 H1 → (∀ b o, F1 b = some o → H1 b = some o) → H1 a = some (.lst vs) ∧ RA F1 vs ds) (hk : ∀ F1 H1 xs, P F1 H1 → (∀ b o, F1 b = some o → H1 b = some o) → SqL K H1 a xs → xs = vs) : Wk P (Itl K a) ds := by
  intro F1 H1 hP hi i
  obtain ⟨h1, h2⟩ := h F1 H1 hP hi
  refine ⟨fun d hd => ?_, fun hl => ⟨vs, .inl (.inl h1), by rw [ra_len h2]; exact hl⟩⟩
  obtain ⟨v, hv, rv⟩ := ra_get h2 hd
  refine ⟨⟨vs, v, .inl (.inl h1), hv⟩, fun x H' hy => ?_⟩
  obtain ⟨e, hx⟩ := hy
  have := hx vs (.inl (.inl h1))
  rw [hv] at this
  cases this
  exact ⟨e, rv⟩
theorem wk_list' {K : PySem.W.Frag} {P : Hp → Hp → Prop} {a : Addr} {vs : List V} {ds : List PyData} (h : ∀ F1 H1, P F1 H1 → (∀ b o, F1 b = some o → H1 b = some o) → H1 a = some (.lst vs) ∧ RA F1 vs ds) : Wk P (Itl K a) ds := by
  intro F1 H1 hP hi i
  obtain ⟨h1, h2⟩ := h F1 H1 hP hi
  refine ⟨fun d hd => ?_, fun hl => ⟨vs, .inl (.inl h1), by rw [ra_len h2]; exact hl⟩⟩
  obtain ⟨v, hv, rv⟩ := ra_get h2 hd
  refine ⟨⟨vs, v, .inl (.inl h1), hv⟩, fun x H' hy => ?_⟩
  obtain ⟨e, hx⟩ := hy
  have := hx vs (.inl (.inl h1))
  rw [hv] at this
  cases this
  exact ⟨e, rv⟩
theorem wk_tup' {K : PySem.W.Frag} {P : Hp → Hp → Prop} {a : Addr} {vs : List V} {ds : List PyData} (h : ∀ F1 H1, P F1 H1 → (∀ b o, F1 b = some o → H1 b = some o) → H1 a = some (.tup vs) ∧ RA F1 vs ds) : Wk P (Itt K a) ds := by
  intro F1 H1 hP hi i
  obtain ⟨h1, h2⟩ := h F1 H1 hP hi
  refine ⟨fun d hd => ?_, fun hl => ⟨vs, .inl (.inl h1), by rw [ra_len h2]; exact hl⟩⟩
  obtain ⟨v, hv, rv⟩ := ra_get h2 hd
  refine ⟨⟨vs, v, .inl (.inl h1), hv⟩, fun x H' hy => ?_⟩
  obtain ⟨e, hx⟩ := hy
  have := hx vs (.inl (.inl h1))
  rw [hv] at this
  cases this
  exact ⟨e, rv⟩
/-- a frozen list or tuple -/
def itF (f : SE) : SM (List PyData) := SM.bind f fun x => match x with
  | .p (.list ds) => SM.ret ds
  | .p (.tuple ds) => SM.ret ds
  | _ => fun _ _ => .stuck
/-- .. or one's own list -/
def itS (f : SE) : SM (List PyData) := SM.bind f fun x => SM.opt (sqOf x)
theorem di_seq {tg e : Expr} {fe : SE} (h : DE X g t E e fe) : DI X g t E tg e (itF fe) := by
  obtain ⟨ta, pa, ea⟩ := h
  refine ⟨_, pi_sq pa, fun ρ dc F σ H Q s hp => ?_⟩
  refine ea.bind s hp fun x xa dc1 F1 H1 g1 s1 r1 hp1 => ?_
  split at hp1
  · rename_i ds
    obtain ⟨a, vs, rfl, ha, hr⟩ := vr_lst r1
    exact ⟨a, rfl, .inl ⟨⟨vs, .inl (.inl (s1.inc _ _ ha))⟩, PostG.fin s1 hp1 s1.id (wk_list' (vs := vs) fun F2 H2 e i => ⟨i _ _ (e _ _ ha), ra_mono e _ _ hr⟩)⟩⟩
  · rename_i ds
    obtain ⟨a, vs, rfl, ha, hr⟩ := vr_tup r1
    exact ⟨a, rfl, .inr ⟨⟨vs, .inl (.inl (s1.inc _ _ ha))⟩, PostG.fin s1 hp1 s1.id (wk_tup' (vs := vs) fun F2 H2 e i => ⟨i _ _ (e _ _ ha), ra_mono e _ _ hr⟩)⟩⟩
  · exact hp1.elim
theorem dic_seq {tg e : Expr} {fe : SE} (h : DE X g t E e fe) : DIc X g t E tg e (itS fe) := by
  obtain ⟨ta, pa, ea⟩ := h
  refine ⟨_, pi_sq pa, fun ρ dc F σ H Q s hp => ?_⟩
  refine ea.bind s hp fun x xa dc1 F1 H1 g1 s1 r1 hp1 => ?_
  obtain ⟨ds, hd, hp2⟩ := hp1.opt
  have frozenL : ∀ {ds : List PyData}, xa = .p (.list ds) → PostG g t E (fun F H J xs => Wk (fun F1 H1 => Gr g.T t.ad F H F1 H1) J xs) F1 H1 (.ok (ds, dc1)) Q → ∃ a, x = .ref a ∧ (((∃ xs, SqL X.K H1 a xs) ∧ Q (Itl X.K a) H1) ∨ ((∃ xs, SqT X.K H1 a xs) ∧ Q (Itt X.K a) H1)) := by
    intro ds e hp2
    subst e
    obtain ⟨a, vs, rfl, ha, hr⟩ := vr_lst r1
    exact ⟨a, rfl, .inl ⟨⟨vs, .inl (.inl (s1.inc _ _ ha))⟩, PostG.fin s1 hp2 s1.id (wk_list' (vs := vs) fun F2 H2 e i => ⟨i _ _ (e.sub _ _ ha), ra_mono e.sub _ _ hr⟩)⟩⟩
  cases xa with
  | p d =>
    cases d with
    | list es => cases hd; exact frozenL rfl hp2
    | tuple es =>
      cases hd
      obtain ⟨a, vs, rfl, ha, hr⟩ := vr_tup r1
      exact ⟨a, rfl, .inr ⟨⟨vs, .inl (.inl (s1.inc _ _ ha))⟩, PostG.fin s1 hp2 s1.id (wk_tup' (vs := vs) fun F2 H2 e i => ⟨i _ _ (e.sub _ _ ha), ra_mono e.sub _ _ hr⟩)⟩⟩
    | none => cases hd
    | bool _ => cases hd
    | int _ => cases hd
    | str _ => cases hd
    | dict _ => cases hd
  | ol es =>
    cases hd
    obtain ⟨a, vs, rfl, hm, ha, hr⟩ := r1
    exact ⟨a, rfl, .inl ⟨⟨vs, .inl (.inl ha)⟩, PostG.fin s1 hp2 s1.id (wk_list' (vs := vs) fun F2 H2 e i => ⟨e.ext _ _ ha lst_nt hm.2.2, ra_mono e.sub _ _ hr⟩)⟩⟩
  | fd _ => cases hd
  | od _ => cases hd
  | dice => cases hd
  | scr _ => cases hd
/-- range(n), range(a, b) -/
def rg2D (a b : Int) : List PyData := (List.range (b - a).toNat).map fun i => .int (a + (i : Nat))
def it1 (f : SE) : SM (List PyData) := SM.bind f fun x => match x with
  | .p (.int n) => if -100000 ≤ n ∧ n ≤ 100000 then SM.ret (rg2D 0 n) else fun _ _ => .stuck
  | _ => fun _ _ => .stuck
def it2 (f f' : SE) : SM (List PyData) := SM.bind f fun x => SM.bind f' fun y => match x, y with
  | .p (.int a), .p (.int b) => if -100000 ≤ a ∧ a ≤ 100000 ∧ -100000 ≤ b ∧ b ≤ 100000 then SM.ret (rg2D a b) else fun _ _ => .stuck
  | _, _ => fun _ _ => .stuck
theorem wk_range {P : Hp → Hp → Prop} {a b : Int} : Wk P (Itr a (b - a).toNat) (rg2D a b) := by
  intro F1 H1 hP hi i
  refine ⟨fun d hd => ?_, fun hl => ?_⟩
  · unfold rg2D at hd
    rw [List.getElem?_map] at hd
    cases q : (List.range (b - a).toNat)[i]? with
    | none => rw [q] at hd; cases hd
    | some j =>
      rw [q] at hd
      obtain ⟨hlt, e⟩ := List.getElem?_eq_some_iff.mp q
      rw [List.getElem_range] at e
      subst e
      cases hd
      rw [List.length_range] at hlt
      refine ⟨hlt, fun x H' hy => ?_⟩
      obtain ⟨e, rfl⟩ := hy
      exact ⟨e, R.int _⟩
  · unfold rg2D at hl
    rw [List.length_map, List.length_range] at hl
    exact hl
theorem evg_it1 {fa : SE} {ta : TE} {rel : Hp → Hp → It → List PyData → Prop} (hrel : ∀ F H a b, rel F H (Itr a (b - a).toNat) (rg2D a b)) (ea : EvG g t E (fun F H v x => VR g t F H v x) ta fa) : EvG g t E rel (iRng1 (tCons ta tNil)) (it1 fa) := by
  intro ρ dc F σ H Q s hp
  refine ea.bind s hp fun x xa dc1 F1 H1 g1 s1 r1 hp1 => ?_
  split at hp1
  · split at hp1
    · obtain rfl := vr_int r1
      refine ⟨_, rfl, by omega, by omega, PostG.fin s1 hp1 s1.id ?_⟩
      have := hrel F1 H1 0 (by assumption)
      rw [Int.sub_zero] at this
      exact this
    · exact hp1.elim
  · exact hp1.elim
theorem evg_it2 {fa fb : SE} {ta tb : TE} {rel : Hp → Hp → It → List PyData → Prop} (hrel : ∀ F H a b, rel F H (Itr a (b - a).toNat) (rg2D a b)) (ea : EvG g t E (fun F H v x => VR g t F H v x) ta fa) (eb : EvG g t E (fun F H v x => VR g t F H v x) tb fb) :
    EvG g t E rel (iRng2 (tCons ta (tCons tb tNil))) (it2 fa fb) := by
  intro ρ dc F σ H Q s hp
  refine ea.bind s hp fun x xa dc1 F1 H1 g1 s1 r1 hp1 => ?_
  refine eb.bind s1 hp1 fun y ya dc2 F2 H2 g2 s2 r2 hp2 => ?_
  split at hp2
  · split at hp2
    · have r1' := r1.gr g2
      obtain rfl := vr_int r1'
      obtain rfl := vr_int r2
      exact ⟨_, _, rfl, ⟨by omega, by omega, by omega, by omega⟩, PostG.fin s2 hp2 s2.id (hrel F2 H2 _ _)⟩
    · exact hp2.elim
  · exact hp2.elim
variable {tg a b : Expr} {fa fb : SE} {p p2 : Pos}
theorem di_r1 (hm : X.mg "range" = none) (ha : DE X g t E a fa) (hg : Gl X "range" := by rfl) (hs : starEach [a] X.env = (false, eval a X.env) :: starEach [] X.env := by rfl) : DI X g t E tg (.Call (.Name "range" p) [a] [] p2) (it1 fa) := by
  obtain ⟨ta, pa, ea⟩ := ha
  exact ⟨_, pi_range1 hg hm (pa_cons pa pa_nil hs) hs, evg_it1 (fun _ _ _ _ => wk_range) ea⟩
theorem dic_r1 (hm : X.mg "range" = none) (ha : DE X g t E a fa) (hg : Gl X "range" := by rfl) (hs : starEach [a] X.env = (false, eval a X.env) :: starEach [] X.env := by rfl) : DIc X g t E tg (.Call (.Name "range" p) [a] [] p2) (it1 fa) := by
  obtain ⟨ta, pa, ea⟩ := ha
  exact ⟨_, pi_range1 hg hm (pa_cons pa pa_nil hs) hs, evg_it1 (fun _ _ _ _ => wk_range) ea⟩
theorem di_r2 (hm : X.mg "range" = none) (ha : DE X g t E a fa) (hb : DE X g t E b fb) (hg : Gl X "range" := by rfl) (hs : starEach [a, b] X.env = (false, eval a X.env) :: starEach [b] X.env := by rfl) (hs2 : starEach [b] X.env = (false, eval b X.env) :: starEach [] X.env := by rfl) :
    DI X g t E tg (.Call (.Name "range" p) [a, b] [] p2) (it2 fa fb) := by
  obtain ⟨ta, pa, ea⟩ := ha
  obtain ⟨tb, pb, eb⟩ := hb
  exact ⟨_, pi_range2 hg hm (pa_cons pa (pa_cons pb pa_nil hs2) hs) (by rw [hs, hs2] <;> rfl) hs2, evg_it2 (fun _ _ _ _ => wk_range) ea eb⟩
theorem dic_r2 (hm : X.mg "range" = none) (ha : DE X g t E a fa) (hb : DE X g t E b fb) (hg : Gl X "range" := by rfl) (hs : starEach [a, b] X.env = (false, eval a X.env) :: starEach [b] X.env := by rfl) (hs2 : starEach [b] X.env = (false, eval b X.env) :: starEach [] X.env := by rfl) :
    DIc X g t E tg (.Call (.Name "range" p) [a, b] [] p2) (it2 fa fb) := by
  obtain ⟨ta, pa, ea⟩ := ha
  obtain ⟨tb, pb, eb⟩ := hb
  exact ⟨_, pi_range2 hg hm (pa_cons pa (pa_cons pb pa_nil hs2) hs) (by rw [hs, hs2] <;> rfl) hs2, evg_it2 (fun _ _ _ _ => wk_range) ea eb⟩
end
end DL

set_option maxHeartbeats 4000000
namespace DL
open PySem PySem.Spec PyProof.Rows L2
section
variable {X : Cx} {g : Cg} {t : Ct} {E : XK} {pos : Pos}
/-! ### blocks -/
theorem dss_nil : DSs X g t E [] sNx := ⟨_, pss_nil, fun ρ dc F σ H D s hp => hp F σ H (fun _ _ h => h) s⟩
theorem dss_one {st : Stmt} {f : SS} (h : DS X g t E st f) : DSs X g t E [st] f := by
  obtain ⟨ts, p, e⟩ := h
  exact ⟨ts, pss_one p, e⟩
theorem dss_cons {st : Stmt} {sts : List Stmt} {f f' : SS} (h : DS X g t E st f) (h' : DSs X g t E sts f') : DSs X g t E (st :: sts) (sSeq f f') := by
  obtain ⟨ts, p, e⟩ := h
  obtain ⟨ts', p', e'⟩ := h'
  refine ⟨_, pss_cons p p', fun ρ dc F σ H D s hp => ?_⟩
  refine e ρ dc F σ H _ s ?_
  unfold sSeq at hp
  cases q : f ρ dc with
  | ok a =>
    obtain ⟨fl, ρ', dc'⟩ := a
    rw [q] at hp
    cases fl with
    | nx => exact fun F' σ' H' i s' => e' ρ' dc' F' σ' H' D s' (hp.mono i)
    | bk => exact hp
    | rt x => exact hp
  | exn n => rw [q] at hp; exact hp
  | stuck => rw [q] at hp; exact hp.elim
/-- a list of one's own is frozen from here on -/
def Val.ice : Val → Option Val
  | .p d => some (.p d)
  | .fd d => some (.fd d)
  | .ol ds => some (.p (.list ds))
  | .od _ => none
  | .dice => none
  | .scr _ => none
def sFrz (i : Nat) (f : SS) : SS := fun ρ dc => match ρ[i]? with
  | some (some x) => match x.ice with
    | some y => f (ρ.set i (some y)) dc
    | none => .stuck
  | _ => .stuck
theorem Gr.ice {g : Cg} {t : Ct} {F H : Hp} {a : Addr} {o : HO} (gr : Gr g.T t.ad t.F0 t.H0 F H) (m : Mine t F a) (h : H a = some o) (n : NT o := by exact fun _ h => by cases h) : Gr g.T t.ad t.F0 t.H0 (upd F a o) H where
  toGrX := gr.toGrX
  sub := fun b u q => by
    have e := gr.sub b u q
    rw [upd_ne (ne_of_none e m.1)]
    exact e
  inc := fun b u q => by
    by_cases hb : b = a
    · rw [hb, upd_same] at q; rw [hb, h]; exact q
    · rw [upd_ne hb] at q; exact gr.inc b u q
  new := fun b u q => by
    by_cases hb : b = a
    · rw [hb, upd_same] at q
      cases q
      rw [hb]
      exact .inr ⟨m.2.1, n⟩
    · rw [upd_ne hb] at q; exact gr.new b u q
  tups := fun b xs q => by
    rcases gr.tups b xs q with z | z
    · rw [upd_ne (ne_of_none z m.1)]; exact .inl z
    · exact .inr z
theorem VR.iceOther {g : Cg} {t : Ct} {F H : Hp} {a : Addr} {o : HO} {v : V} {y : Val} (m : Mine t F a) (h : VR g t F H v y) (hd : y.own = true → v ≠ .ref a) : VR g t (upd F a o) H v y := by
  have e : ∀ b u, F b = some u → upd F a o b = some u := fun b u q => by rw [upd_ne (ne_of_none q m.1)]; exact q
  cases y with
  | p d => exact r_mono e d v h
  | ol ds =>
    obtain ⟨b, vs, rfl, hm, h1, h2⟩ := h
    have hb : b ≠ a := fun z => hd rfl (by rw [z])
    exact ⟨b, vs, rfl, ⟨by rw [upd_ne hb]; exact hm.1, hm.2⟩, h1, ra_mono e ds vs h2⟩
  | fd kvs =>
    obtain ⟨b, o, h1, h2⟩ := h
    exact ⟨b, o, h1, e _ _ h2⟩
  | od kvs =>
    obtain ⟨b, rfl, hm, h1⟩ := h
    have hb : b ≠ a := fun z => hd rfl (by rw [z])
    exact ⟨b, rfl, ⟨by rw [upd_ne hb]; exact hm.1, hm.2⟩, h1⟩
  | dice => exact h
  | scr _ => exact h
theorem Mine.dice {t : Ct} {F H : Hp} {dc : Dc} {a : Addr} (m : Mine t F a) (d : DiceAt t dc F H) {o : HO} : DiceAt t dc (upd F a o) H := fun b hb => by
  obtain ⟨h1, h2, h3⟩ := d b hb
  have : b ≠ a := fun z => m.2.2 (by rw [hb, z])
  exact ⟨by rw [upd_ne this]; exact h1, h2, h3⟩
theorem SR.ice {g : Cg} {t : Ct} {ρ : Rho} {dc : Dc} {F H : Hp} {σ : L2.St} {i : Nat} {x y : Val} (s : SR g t ρ dc F σ H) (e : ρ[i]? = some (some x)) (h : x.ice = some y) : ∃ F', (∀ b o, F b = some o → F' b = some o) ∧ SR g t (ρ.set i (some y)) dc F' σ H := by
  obtain ⟨v, hv, r⟩ := s.slot i x e
  have hl : i < ρ.length := (List.getElem?_eq_some_iff.mp e).1
  have same : ∀ {x' : Val}, ρ[i]? = some (some x') → ρ.set i (some x') = ρ := fun {x'} q => by
    apply List.ext_getElem?
    intro j
    by_cases hj : j = i
    · subst hj; rw [List.getElem?_set_self hl, q]
    · rw [List.getElem?_set_ne (Ne.symm hj)]
  have main : ∀ {a : Addr} {o : HO} {y' : Val}, v = .ref a → Mine t F a → H a = some o → NT o → x.own = true → y'.own = false → VR g t (upd F a o) H v y' → SR g t (ρ.set i (some y')) dc (upd F a o) σ H := by
    intro a o y' ev m ho hnt hx hy r'
    refine ⟨fun j z hz => ?_, fun j k z z' w hjk e1 e2 o1 o2 e3 e4 => ?_, s.gr.ice m ho hnt, m.dice s.dice, by rw [List.length_set]; exact s.len, fun b ps hq => ?_, fun b xs hq => by rw [upd_ne (ne_of_none (s.tup b xs hq) m.1)]; exact s.tup b xs hq⟩
    · by_cases hj : j = i
      · subst hj
        rw [List.getElem?_set_self hl] at hz
        cases hz
        exact ⟨v, hv, r'⟩
      · rw [List.getElem?_set_ne (Ne.symm hj)] at hz
        obtain ⟨w, hw, rw'⟩ := s.slot j z hz
        refine ⟨w, hw, rw'.iceOther m fun oz ew => ?_⟩
        rw [ev] at hv
        rw [ew] at hw
        exact s.dist j i z x _ hj hz e oz hx hw hv
    · have ne : ∀ {m : Nat} {z : Val}, (ρ.set i (some y'))[m]? = some (some z) → z.own = true → m ≠ i := by
        intro m z q oz hm
        subst hm
        rw [List.getElem?_set_self hl] at q
        cases q
        rw [hy] at oz
        cases oz
      have n1 := ne e1 o1
      have n2 := ne e2 o2
      rw [List.getElem?_set_ne (Ne.symm n1)] at e1
      rw [List.getElem?_set_ne (Ne.symm n2)] at e2
      exact s.dist j k z z' w hjk e1 e2 o1 o2 e3 e4
    · by_cases hb : b = a
      · rw [hb, upd_same] at hq
        exact hnt ps (Option.some.inj hq)
      · rw [upd_ne hb] at hq
        exact s.nt b ps hq
  cases x with
  | p d => cases h; rw [same e]; exact ⟨F, fun _ _ q => q, s⟩
  | fd d => cases h; rw [same e]; exact ⟨F, fun _ _ q => q, s⟩
  | ol ds =>
    cases h
    obtain ⟨a, vs, h1, h2, h3, h4⟩ := r
    refine ⟨_, fun b o q => ?_, main h1 h2 h3 lst_nt rfl rfl ?_⟩
    · rw [upd_ne (ne_of_none q h2.1)]; exact q
    · rw [h1]
      exact .lst upd_same (ra_mono (fun b o q => by rw [upd_ne (ne_of_none q h2.1)]; exact q) ds vs h4)
  | od ds => cases h
  | dice => cases h
  | scr _ => cases h
theorem dss_frz {sts : List Stmt} {f : SS} (i : Nat) (h : DSs X g t E sts f) : DSs X g t E sts (sFrz i f) := by
  obtain ⟨ts, p, e⟩ := h
  refine ⟨ts, p, fun ρ dc F σ H D s hp => ?_⟩
  unfold sFrz at hp
  split at hp
  · rename_i x q
    split at hp
    · rename_i y hy
      obtain ⟨F', i1, s1⟩ := s.ice q hy
      exact e _ dc F' σ H D s1 (hp.mono i1)
    · exact hp.elim
  · exact hp.elim
/-! ### simple statements -/
def sSet (i : Nat) (f : SE) : SS := SM.thn f fun x ρ dc => match x.frz with
  | some y => .ok (.nx, ρ.set i (some y), dc)
  | none => .stuck
theorem asg_ev {te : TE} {i : Nat} {f : SE} (ee : EvG g t E (fun F H v x => VR g t F H v x) te f) {ρ : Rho} {dc : Dc} {F H : Hp} {σ : L2.St} {D : Ends} (s : SR g t ρ dc F σ H) (hp : PostS g t E F (sSet i f ρ dc) D) : tAsg te (gName i) D σ H := by
  refine ee.thn s hp fun x a dc1 F1 H1 g1 s1 r1 hp1 => ?_
  split at hp1
  · rename_i y hy
    exact hp1 F1 _ H1 (fun _ _ q => q) (s1.setF r1 hy)
  · exact hp1.elim
theorem ds_set {i : Nat} {x : Str} {e : Expr} {f : SE} {p : Pos} (hN : X.N.Nodup) (he : DE X g t E e f) (hi : X.N[i]? = some x := by rfl) (hx : Loc X.env.scope x := by first | exact Or.inl rfl | exact Or.inr rfl)
    (hs : swapsWith e (some (.Name x p)) pos.line X.env = pure false := by rfl) (hf : X.fn x = true ∨ X.env.scope.names.lookup x = some .local := by first | exact .inl rfl | exact .inr rfl | assumption) : DS X g t E (.Assign [.Name x p] e pos) (sSet i f) := by
  obtain ⟨te, pe, ee⟩ := he
  exact ⟨_, ps_set hN hi hx pe hs hf, fun ρ dc F σ H D s hp => asg_ev ee s hp⟩
/-- x = [..], a list of one's own -/
def sOwnL (i : Nat) (f : SM (List Val)) : SS := SM.thn f fun xs ρ dc => match vLst xs with
  | some (.p (.list ds)) => .ok (.nx, ρ.set i (some (.ol ds)), dc)
  | _ => .stuck
theorem SR.mine {ρ : Rho} {dc : Dc} {F H : Hp} {σ : L2.St} (s : SR g t ρ dc F σ H) {p : Addr} (h : H p = none) : Mine t F p := by
  refine ⟨?_, s.gr.dom p h, fun z => ?_⟩
  · cases q : F p with
    | none => rfl
    | some o => rw [s.inc p o q] at h; cases h
  · obtain ⟨_, _, e⟩ := s.dice p z
    rw [e] at h
    cases h
theorem SR.fresh {ρ : Rho} {dc : Dc} {F H : Hp} {σ : L2.St} (s : SR g t ρ dc F σ H) {p : Addr} (h : H p = none) (o : HO) (n : ∀ xs, o ≠ .tup xs := by exact fun _ h => by cases h) : SR g t ρ dc F σ (upd H p o) :=
  s.gr' (Gr.laid s.tab s.inc h n) (s.dice.gr (Gr.laid s.tab s.inc h n (T := g.T)))
theorem SR.ownNe {ρ : Rho} {dc : Dc} {F H : Hp} {σ : L2.St} (s : SR g t ρ dc F σ H) {p : Addr} (h : H p = none) {j : Nat} {y : Val} {w : V} (e : ρ[j]? = some (some y)) (o : y.own = true) (hw : σ[j]? = some (some w)) : w ≠ .ref p := by
  obtain ⟨v, hv, r⟩ := s.slot j y e
  rw [hv] at hw
  cases hw
  rintro rfl
  cases y with
  | ol ds => obtain ⟨a, vs, h1, _, h2, _⟩ := r; cases h1; rw [h] at h2; cases h2
  | od ds => obtain ⟨a, h1, _, h2⟩ := r; cases h1; rw [h] at h2; cases h2
  | p _ => cases o
  | fd _ => cases o
  | dice => cases o
  | scr _ => cases o
theorem ds_ownL {i : Nat} {x : Str} {es : List Expr} {f : SM (List Val)} {p p2 : Pos} (hN : X.N.Nodup) (he : DA X g t E es f) (hi : X.N[i]? = some x := by rfl) (hx : Loc X.env.scope x := by first | exact Or.inl rfl | exact Or.inr rfl)
    (hs : swapsWith (.List es p2) (some (.Name x p)) pos.line X.env = pure false := by rfl) (hf : X.fn x = true ∨ X.env.scope.names.lookup x = some .local := by first | exact .inl rfl | exact .inr rfl | assumption) : DS X g t E (.Assign [.Name x p] (.List es p2) pos) (sOwnL i f) := by
  obtain ⟨te, pe, ee⟩ := he
  refine ⟨_, ps_set hN hi hx (pe_lst pe) hs hf, fun ρ dc F σ H D s hp => ?_⟩
  refine ee.thn s hp fun xs a dc1 F1 H1 g1 s1 r1 hp1 => ?_
  split at hp1
  · rename_i ds hd
    unfold vLst at hd
    split at hd
    · rename_i hl
      cases q : datas a with
      | none => rw [q] at hd; cases hd
      | some es' =>
        rw [q] at hd
        cases hd
        refine ⟨sz (by rw [r1.len]; exact hl), fun p hp => ?_⟩
        refine hp1 F1 _ _ (fun _ _ q => q) ((s1.fresh hp _).set ⟨p, xs, rfl, s1.mine hp, upd_same, datas_ra r1 q⟩ fun j y w hj e o _ hw => s1.ownNe hp e o hw)
    · cases hd
  · exact hp1.elim
/-- x = {}, a dict of one's own, keyed by pairs of ints -/
def sOwnD (i : Nat) : SS := fun ρ dc => .ok (.nx, ρ.set i (some (.od [])), dc)
theorem ds_ownD {i : Nat} {x : Str} {p p2 : Pos} (hN : X.N.Nodup) (hi : X.N[i]? = some x := by rfl) (hx : Loc X.env.scope x := by first | exact Or.inl rfl | exact Or.inr rfl)
    (hs : swapsWith (.Dict [] [] p2) (some (.Name x p)) pos.line X.env = pure false := by rfl) (hf : X.fn x = true ∨ X.env.scope.names.lookup x = some .local := by first | exact .inl rfl | exact .inr rfl | assumption) : DS X g t E (.Assign [.Name x p] (.Dict [] [] p2) pos) (sOwnD i) := by
  refine ⟨_, ps_set hN hi hx pe_dnewT hs hf, fun ρ dc F σ H D s hp => ?_⟩
  intro q hq
  exact hp F _ _ (fun _ _ z => z) ((s.fresh hq _).set ⟨q, rfl, s.mine hq, upd_same⟩ fun j y w hj e o _ hw => s.ownNe hq e o hw)
/-- a, b, .. = e -/
def sUnp (tg : Tg) (f : SE) : SS := SM.thn f fun x ρ dc => match x with
  | .p d => match tg d ρ with
    | some ρ' => .ok (.nx, ρ', dc)
    | none => .stuck
  | _ => .stuck
theorem ds_unp {tg e : Expr} {f : SE} {is : List Nat} {tf : Tg} (he : DE X g t E e f) (hg : DG X g t tg is tf) (hs : swapsWithSole [tg] e pos.line X.env = pure false := by rfl) (hw : swappedStores [tg] e X.env = pure none := by rfl)
    (h1 : (assignEach [tg] X.env).map (·.2) = [assign tg X.env] := by rfl) : DS X g t E (.Assign [tg] e pos) (sUnp tf f) := by
  obtain ⟨te, pe, ee⟩ := he
  obtain ⟨gg, pg, eg⟩ := hg
  refine ⟨_, ps_asg pe pg hs hw h1, fun ρ dc F σ H D s hp => ?_⟩
  refine ee.thn s hp fun x a dc1 F1 H1 g1 s1 r1 hp1 => ?_
  split at hp1
  · rename_i d
    split at hp1
    · rename_i ρ' h2
      exact eg d ρ ρ' dc1 F1 σ H1 x _ s1 r1 h2 fun σ' _ s2 => hp1 F1 σ' H1 (fun _ _ q => q) s2
    · exact hp1.elim
  · exact hp1.elim
/-- a, b = x, y with plain local names -/
def sPar (i j : Nat) (f : SM (List Val)) : SS := SM.thn f fun xs ρ dc => match xs with
  | [x, y] => match x.frz, y.frz with
    | some x', some y' => .ok (.nx, (ρ.set i (some x')).set j (some y'), dc)
    | _, _ => .stuck
  | _ => .stuck
theorem ds_par {i j : Nat} {x y : Str} {a b : Expr} {f : SM (List Val)} {px py pt pt2 : Pos} {kt k2} (hN : X.N.Nodup) (ha : DA X g t E [a, b] f) (hw : swappedStores [.Tuple [.Name x px, .Name y py] kt pt] (.Tuple [a, b] k2 pt2) X.env = pure (some [x, y]) := by rfl) (hc : X.calm = true := by rfl) (hi : X.N[i]? = some x := by rfl) (hj : X.N[j]? = some y := by rfl) (hij : i ≠ j := by decide)
    (hx : X.env.scope.names.lookup x = some .local := by rfl) (hy : X.env.scope.names.lookup y = some .local := by rfl)
    (hs : swapsWithSole [.Tuple [.Name x px, .Name y py] kt pt] (.Tuple [a, b] k2 pt2) pos.line X.env = pure false := by rfl) :
    DS X g t E (.Assign [.Tuple [.Name x px, .Name y py] kt pt] (.Tuple [a, b] k2 pt2) pos) (sPar i j f) := by
  obtain ⟨ta, pa, ea⟩ := ha
  refine ⟨_, ps_par hc hN hi hj hij hx hy pa hw hs, fun ρ dc F σ H D s hp => ?_⟩
  refine ea.thn s hp fun vs xs dc1 F1 H1 g1 s1 r1 hp1 => ?_
  rcases xs with _ | ⟨u, _ | ⟨w, _ | ⟨_, _⟩⟩⟩
  · exact False.elim hp1
  · exact False.elim hp1
  · cases r1 with
    | cons r1 r2 =>
      cases r2 with
      | cons r2 r3 =>
        cases r3
        have hp2 : PostS g t E F1 ((match u.frz, w.frz with
          | some x', some y' => .ok (.nx, (ρ.set i (some x')).set j (some y'), dc1)
          | _, _ => .stuck) : Res (Fl × Rho × Dc)) D := hp1
        cases h1 : u.frz with
        | none => rw [h1] at hp2; exact False.elim hp2
        | some u' =>
          cases h2 : w.frz with
          | none => rw [h1, h2] at hp2; exact False.elim hp2
          | some w' =>
            rw [h1, h2] at hp2
            exact ⟨_, _, rfl, hp2 F1 _ H1 (fun _ _ q => q) ((s1.setF r1 h1).setF r2 h2)⟩
  · exact False.elim hp1
/-- x op= e, ints -/
def sAug (i : Nat) (op : Val → Val → Option Val) (f : SE) : SS := fun ρ dc => match ρ[i]? with
  | some (some x) => SM.thn f (fun y ρ dc => match op x y with
    | some z => match z.frz with
      | some z' => .ok (.nx, ρ.set i (some z'), dc)
      | none => .stuck
    | none => .stuck) ρ dc
  | _ => .stuck
theorem ds_aug {i : Nat} {x : Str} {e : Expr} {op : Operator} {r : R2} {fo : Val → Val → Option Val} {f : SE} {p : Pos} (hN : X.N.Nodup) (ho : OpR X (inplaceOp op) r) (hd : OpD g t r fo) (he : DE X g t E e f) (hi : X.N[i]? = some x := by rfl) (hx : Loc X.env.scope x := by first | exact Or.inl rfl | exact Or.inr rfl)
    (hf : X.fn x = true ∨ X.env.scope.names.lookup x = some .local := by first | exact .inl rfl | exact .inr rfl | assumption) : DS X g t E (.AugAssign (.Name x p) op e pos) (sAug i fo f) := by
  obtain ⟨te, pe, ee⟩ := he
  refine ⟨_, ps_aug (ti := r) hN hi hx pe ho hf, fun ρ dc F σ H D s hp => ?_⟩
  unfold sAug at hp
  split at hp
  · rename_i xv hxv
    obtain ⟨v, hv, rv⟩ := s.slot i xv hxv
    refine ⟨v, hv, ?_⟩
    refine ee.thn s hp fun y a dc1 F1 H1 g1 s1 r1 hp1 => ?_
    split at hp1
    · rename_i z hz
      split at hp1
      · rename_i z' hz'
        exact hd F1 H1 v y xv a z _ s1.tab s1.inc (rv.gr g1) r1 hz fun w F' H' e q => hp1 F' _ H' e.sub ((s1.gr' e.weak (s1.dice.gr e)).setF q hz')
      · exact hp1.elim
    · exact hp1.elim
  · exact hp.elim
/-- an expression whose value is dropped -/
def sExpr (f : SE) : SS := SM.thn f fun _ ρ dc => .ok (.nx, ρ, dc)
theorem ds_expr {e : Expr} {f : SE} (he : DE X g t E e f) (hs : swapsWith e none pos.line X.env = pure false := by rfl) : DS X g t E (.Expr e pos) (sExpr f) := by
  obtain ⟨te, pe, ee⟩ := he
  refine ⟨_, ps_expr pe hs, fun ρ dc F σ H D s hp => ?_⟩
  refine ee.thn s hp fun x a dc1 F1 H1 g1 s1 r1 hp1 => ?_
  exact hp1 F1 σ H1 (fun _ _ q => q) s1
def sRet (f : SE) : SS := SM.thn f fun x ρ dc => match x.ice with
  | some y => .ok (.rt y, ρ, dc)
  | none => .stuck
theorem vr_ice {F H : Hp} {v : V} {x y : Val} {dc : Dc} (gr : Gr g.T t.ad t.F0 t.H0 F H) (d : DiceAt t dc F H) (r : VR g t F H v x) (h : x.ice = some y) : ∃ F', Gr g.T t.ad t.F0 t.H0 F' H ∧ DiceAt t dc F' H ∧ VRf g t F' H v y := by
  cases x with
  | p d' => cases h; exact ⟨F, gr, d, r⟩
  | fd d' => cases h; exact ⟨F, gr, d, r⟩
  | ol ds =>
    cases h
    obtain ⟨a, vs, rfl, h2, h3, h4⟩ := r
    refine ⟨_, gr.ice h2 h3, h2.dice d, .lst upd_same (ra_mono (fun b o q => by rw [upd_ne (ne_of_none q h2.1)]; exact q) ds vs h4)⟩
  | od ds => cases h
  | dice => cases h
  | scr _ => cases h
theorem ds_ret {e : Expr} {f : SE} (he : DE X g t E e f) : DS X g t E (.Return (some e) pos) (sRet f) := by
  obtain ⟨te, pe, ee⟩ := he
  refine ⟨_, ps_ret pe, fun ρ dc F σ H D s hp => ?_⟩
  refine ee.thn s hp fun x a dc1 F1 H1 g1 s1 r1 hp1 => ?_
  split at hp1
  · rename_i y hy
    obtain ⟨F', h1, h2, h3⟩ := vr_ice s1.gr s1.dice r1 hy
    exact hp1 x F' H1 h1 h2 h3
  · exact hp1.elim
def sBk : SS := fun ρ dc => .ok (.bk, ρ, dc)
theorem ds_break : DS X g t E (.Break pos) sBk := ⟨_, ps_break, fun ρ dc F σ H D s hp => hp F σ H (fun _ _ q => q) s⟩
theorem ds_pass : DS X g t E (.Pass pos) sNx := ⟨_, ps_pass, fun ρ dc F σ H D s hp => hp F σ H (fun _ _ q => q) s⟩
def sIf (c : SM Bool) (a b : SS) : SS := SM.thn c fun x => if x = true then a else b
theorem ds_if {c : Expr} {a b : List Stmt} {fc : SM Bool} {fa fb : SS} (hc : DT X g t E c fc) (ha : DSs X g t E a fa) (hb : DSs X g t E b fb) : DS X g t E (.If c a b pos) (sIf fc fa fb) := by
  obtain ⟨tc, pc, ec⟩ := hc
  obtain ⟨ta, pa, ea⟩ := ha
  obtain ⟨tb, pb, eb⟩ := hb
  refine ⟨_, ps_if pc pa pb, fun ρ dc F σ H D s hp => ?_⟩
  refine ec.thn s hp fun x a dc1 F1 H1 g1 s1 r1 hp1 => ?_
  subst r1
  cases x with
  | true => exact ea ρ dc1 F1 σ H1 D s1 hp1
  | false => exact eb ρ dc1 F1 σ H1 D s1 hp1
/-! ### for -/
def forD (tg : Tg) (body : SS) : List PyData → SS
  | [], ρ, dc => .ok (.nx, ρ, dc)
  | x :: xs, ρ, dc => match tg x ρ with
    | none => .stuck
    | some ρ1 => match body ρ1 dc with
      | .ok (.nx, ρ2, dc2) => forD tg body xs ρ2 dc2
      | .ok (.bk, ρ2, dc2) => .ok (.nx, ρ2, dc2)
      | r => r
def sFor (it : SM (List PyData)) (tg : Tg) (body : SS) : SS := SM.thn it fun xs => forD tg body xs
theorem ds_for {tg iter : Expr} {body : List Stmt} {fi : SM (List PyData)} {is : List Nat} {tf : Tg} {fb : SS} (hi : DI X g t E tg iter fi) (hg : DG X g t tg is tf) (hb : DSs X g t E body fb)
    (hp : PassesOwn (model X.prog X.w) X.A X.env X.xe := by first | exact PassesOwn.never | exact passes_of rfl) (hc : X.calm = true := by rfl) (hs : ∀ x, foldedSetIterable iter X.env x = pure x := by intro _; rfl) : DS X g t E (.For tg iter body [] pos) (sFor fi tf fb) := by
  obtain ⟨wi, pi, ei⟩ := hi
  obtain ⟨gg, pg, eg⟩ := hg
  obtain ⟨tb, pb, eb⟩ := hb
  refine ⟨_, ps_for hp hc pi pg pb hs, fun ρ dc F σ H D s hp => ?_⟩
  refine ei.thn s hp fun J xs dc1 F1 H1 g1 s1 wk hp1 => ?_
  refine ⟨fun i m σ' H' => m = xs.length - i ∧ i ≤ xs.length ∧ ∃ ρ' dc' F', (∀ b o, F1 b = some o → F' b = some o) ∧ SR g t ρ' dc' F' σ' H' ∧ PostS g t E F' (forD tf fb (xs.drop i) ρ' dc') D,
    ⟨xs.length, by simp, Nat.zero_le _, ρ, dc1, F1, fun _ _ q => q, s1, hp1⟩, ?_⟩
  rintro i m σ' H' ⟨rfl, hi, ρ', dc', F', hF, s', hp'⟩
  obtain ⟨wgo, wst⟩ := wk F' H' hF s'.inc i
  by_cases hlt : i < xs.length
  · right
    have hx : xs[i]? = some xs[i] := List.getElem?_eq_getElem hlt
    obtain ⟨hgo, hy⟩ := wgo _ hx
    refine ⟨hgo, fun σ2 H2 => (xs.length - (i + 1) = xs.length - (i + 1) ∧ i + 1 ≤ xs.length ∧ ∃ ρ' dc' F', (∀ b o, F1 b = some o → F' b = some o) ∧ SR g t ρ' dc' F' σ2 H2 ∧ PostS g t E F' (forD tf fb (xs.drop (i + 1)) ρ' dc') D), fun σ2 H2 q => ⟨xs.length - (i + 1), by omega, q⟩, fun x H2 hxy => ?_⟩
    obtain ⟨rfl, rx⟩ := hy x H2 hxy
    rw [List.drop_eq_getElem_cons hlt] at hp'
    unfold forD at hp'
    split at hp'
    · exact hp'.elim
    · rename_i ρ1 h1
      refine eg _ ρ' ρ1 dc' F' σ' H2 x _ s' rx h1 fun σ2 _ s2 => ?_
      refine eb ρ1 dc' F' σ2 H2 _ s2 ?_
      cases q : fb ρ1 dc' with
      | ok a =>
        obtain ⟨fl, ρ2, dc2⟩ := a
        rw [q] at hp'
        cases fl with
        | nx => exact fun F3 σ3 H3 hF3 s3 => ⟨rfl, hlt, ρ2, dc2, F3, fun b o z => hF3 b o (hF b o z), s3, hp'.mono hF3⟩
        | bk => exact hp'
        | rt x => exact hp'
      | exn n => rw [q] at hp'; exact hp'
      | stuck => rw [q] at hp'; exact hp'.elim
  · left
    have e : i = xs.length := by omega
    refine ⟨wst (by omega), ?_⟩
    rw [e, List.drop_length] at hp'
    exact hp' F' σ' H' (fun _ _ q => q) s'
/-! ### while -/
def whD (c : SM Bool) (b : SS) : Nat → SS
  | 0, _, _ => .stuck
  | n + 1, ρ, dc => match c ρ dc with
    | .ok (true, dc1) => match b ρ dc1 with
      | .ok (.nx, ρ2, dc2) => whD c b n ρ2 dc2
      | .ok (.bk, ρ2, dc2) => .ok (.nx, ρ2, dc2)
      | r => r
    | .ok (false, dc1) => .ok (.nx, ρ, dc1)
    | .exn n => .exn n
    | .stuck => .stuck
def sWh (n : Rho → Nat) (c : SM Bool) (b : SS) : SS := fun ρ dc => whD c b (n ρ) ρ dc
theorem ds_while {c : Expr} {body : List Stmt} {fc : SM Bool} {fb : SS} (n : Rho → Nat) (hc : DT X g t E c fc) (hb : DSs X g t E body fb) (hp : PassesOwn (model X.prog X.w) X.A X.env X.xe := by first | exact PassesOwn.never | exact passes_of rfl) : DS X g t E (.While c body [] pos) (sWh n fc fb) := by
  obtain ⟨tc, pc, ec⟩ := hc
  obtain ⟨tb, pb, eb⟩ := hb
  refine ⟨_, ps_while hp pc pb, fun ρ dc F σ H D s hp => ?_⟩
  refine ⟨fun m σ' H' => ∃ ρ' dc' F', (∀ b o, F b = some o → F' b = some o) ∧ SR g t ρ' dc' F' σ' H' ∧ PostS g t E F' (whD fc fb m ρ' dc') D, ⟨n ρ, ρ, dc, F, fun _ _ q => q, s, hp⟩, ?_⟩
  rintro m σ' H' ⟨ρ', dc', F', hF, s', hp'⟩
  cases m with
  | zero => exact hp'.elim
  | succ m =>
    unfold whD at hp'
    refine ec ρ' dc' F' σ' H' _ s' ?_
    cases q : fc ρ' dc' with
    | ok a =>
      obtain ⟨x, dc1⟩ := a
      rw [q] at hp'
      intro y F1 H1 g1 d1 e1
      subst e1
      have s1 := s'.gr' g1 d1
      cases y with
      | true =>
        refine ⟨fun σ2 H2 => ∃ ρ' dc' F', (∀ b o, F b = some o → F' b = some o) ∧ SR g t ρ' dc' F' σ2 H2 ∧ PostS g t E F' (whD fc fb m ρ' dc') D, fun σ2 H2 q => ⟨m, Nat.lt_succ_self m, q⟩, ?_⟩
        refine eb ρ' dc1 F1 σ' H1 _ s1 ?_
        cases q2 : fb ρ' dc1 with
        | ok a =>
          obtain ⟨fl, ρ2, dc2⟩ := a
          simp only [q2] at hp'
          cases fl with
          | nx => exact fun F3 σ3 H3 hF3 s3 => ⟨ρ2, dc2, F3, fun b o z => hF3 b o (g1.sub b o (hF b o z)), s3, (hp'.mono g1.sub).mono hF3⟩
          | bk => exact hp'.mono g1.sub
          | rt x => exact hp'
        | exn n => simp only [q2] at hp'; exact hp'
        | stuck => simp only [q2] at hp'; exact hp'.elim
      | false => exact hp' F1 σ' H1 g1.sub s1
    | exn n => rw [q] at hp'; exact hp'
    | stuck => rw [q] at hp'; exact hp'.elim
/-! ### comprehensions -/
def compD (tg : Tg) (test : SM Bool) (elt : SE) : List PyData → List PyData → Rho → Dc → Res (Val × Dc)
  | [], acc, _, dc => .ok (.p (.list acc), dc)
  | x :: xs, acc, ρ, dc => match tg x ρ with
    | none => .stuck
    | some ρ1 => match test ρ1 dc with
      | .ok (true, dc1) => match elt ρ1 dc1 with
        | .ok (.p d, dc2) => compD tg test elt xs (acc ++ [d]) ρ dc2
        | _ => .stuck
      | .ok (false, dc1) => compD tg test elt xs acc ρ dc1
      | _ => .stuck
def eComp (it : SM (List PyData)) (tg : Tg) (vs : List Nat) (test : SM Bool) (elt : SE) : SE := SM.bind it fun xs ρ dc => if xs.length ≤ 100000 then compD tg test elt xs [] (wipeR ρ vs) dc else .stuck
def DTs (X : Cx) (g : Cg) (t : Ct) (E : XK) (ifs : List Expr) (f : SM Bool) : Prop := ∃ te, PTs X ifs te ∧ EvG g t E (fun _ _ v x => v = x) te f
theorem dts_nil : DTs X g t E [] (SM.ret true) := ⟨_, pts_nil, fun ρ dc F σ H Q s hp => PostG.fin s hp s.id rfl⟩
theorem dts_one {c : Expr} {f : SM Bool} (h : DT X g t E c f) : DTs X g t E [c] f := by
  obtain ⟨te, p, e⟩ := h
  exact ⟨te, pts_one p, e⟩
theorem comp_ev {wi : TI} {gg : TG} {tt : TT} {te : TE} {vs is : List Nat} {fi : SM (List PyData)} {tf : Tg} {ft : SM Bool} {fe : SE} (ei : EvG g t E (fun F H J xs => Wk (fun F1 H1 => Gr g.T t.ad F H F1 H1) J xs) wi fi)
    (eg : ∀ d ρ ρ' dc F σ H v Q, SR g t ρ dc F σ H → R F v d → tf d ρ = some ρ' → (∀ σ', Only is σ σ' → SR g t ρ' dc F σ' H → Q σ' H) → gg v σ H Q) (hv : ∀ i ∈ is, i ∈ vs)
    (et : EvG g t E0 (fun _ _ v x => v = x) tt ft) (ee : EvG g t E0 (fun F H v x => VR g t F H v x) te fe) : EvG g t E (fun F H v x => VR g t F H v x) (tLc wi gg tt te vs) (eComp fi tf vs ft fe) := by
  intro ρ dc F σ H Q s hp
  refine ei.bind s hp fun J xs dc1 F1 H1 g1 s1 wk hp1 => ?_
  split at hp1
  · rename_i hlen
    intro D hD
    have mD := s1.mine hD
    -- the state at a turn: the new list D holds acc
    refine ⟨fun i m H' => m = xs.length - i ∧ i ≤ xs.length ∧ ∃ acc vacc dc' F', Gr g.T t.ad F1 H1 F' H' ∧ DiceAt t dc' F' H' ∧ F' D = none ∧ H' D = some (.lst vacc) ∧ RA F' vacc acc ∧ acc.length ≤ i ∧
      PostG g t E (fun F H v x => VR g t F H v x) F1 H1 (compD tf ft fe (xs.drop i) acc (wipeR ρ vs) dc') Q, ⟨xs.length, by simp, Nat.zero_le _, [], [], dc1, F1, Gr.laid s1.tab s1.inc hD, s1.dice.gr (Gr.laid s1.tab s1.inc hD (T := g.T)), mD.1, upd_same, .nil, Nat.le_refl _, hp1⟩, ?_⟩
    rintro i m H' ⟨rfl, hi, acc, vacc, dc', F', gr, dd, nD, eD, ra, la, hp'⟩
    have s' : SR g t ρ dc' F' σ H' := s1.gr' gr dd
    obtain ⟨wgo, wst⟩ := wk F' H' gr gr.inc i
    by_cases hlt : i < xs.length
    · right
      have hx : xs[i]? = some xs[i] := List.getElem?_eq_getElem hlt
      obtain ⟨hgo, hy⟩ := wgo _ hx
      refine ⟨hgo, fun H2 => (xs.length - (i + 1) = xs.length - (i + 1) ∧ i + 1 ≤ xs.length ∧ ∃ acc vacc dc' F', Gr g.T t.ad F1 H1 F' H2 ∧ DiceAt t dc' F' H2 ∧ F' D = none ∧ H2 D = some (.lst vacc) ∧ RA F' vacc acc ∧ acc.length ≤ i + 1 ∧
        PostG g t E (fun F H v x => VR g t F H v x) F1 H1 (compD tf ft fe (xs.drop (i + 1)) acc (wipeR ρ vs) dc') Q), fun H2 q => ⟨xs.length - (i + 1), by omega, q⟩, fun x H2 hxy => ?_⟩
      obtain ⟨rfl, rx⟩ := hy x H2 hxy
      rw [List.drop_eq_getElem_cons hlt] at hp'
      unfold compD at hp'
      split at hp'
      · exact hp'.elim
      · rename_i ρ1 h1
        refine eg _ (wipeR ρ vs) ρ1 dc' F' (L2.wipe σ vs) H2 x _ (s'.wipe vs) rx h1 fun σ2 o2 s2 => ?_
        refine ⟨?_, ?_⟩
        · rw [o2.wipe hv]
          apply List.ext_getElem?
          intro j
          rw [wipe_at, wipe_at]
          by_cases hj : j ∈ vs ∧ j < σ.length
          · rw [if_pos (by rw [wipe_length]; exact hj), if_pos hj]
          · rw [if_neg (by rw [wipe_length]; exact hj), if_neg hj]
        · refine et ρ1 dc' F' σ2 H2 _ s2 ?_
          cases q : ft ρ1 dc' with
          | ok a =>
            obtain ⟨b, dc3⟩ := a
            simp only [q] at hp'
            intro b' F3 H3 g3 d3 eb
            subst eb
            have gr3 := gr.trans g3
            have s3 := s2.gr' g3 d3
            have nD3 : F3 D = none := by
              cases z : F3 D with
              | none => rfl
              | some u =>
                rcases g3.new D u z with z1 | ⟨z1, _⟩
                · rw [nD] at z1; cases z1
                · rw [eD] at z1; cases z1
            have eD3 : H3 D = some (.lst vacc) := g3.ext D _ eD lst_nt mD.2.2
            cases b' with
            | true =>
              rw [if_pos rfl]
              refine ee ρ1 dc3 F3 σ2 H3 _ s3 ?_
              cases q2 : fe ρ1 dc3 with
              | ok a =>
                obtain ⟨y, dc4⟩ := a
                simp only [q2] at hp'
                cases y with
                | p d =>
                  simp only at hp'
                  intro v F4 H4 g4 d4 r4
                  have gr4 := gr3.trans g4
                  have nD4 : F4 D = none := by
                    cases z : F4 D with
                    | none => rfl
                    | some u =>
                      rcases g4.new D u z with z1 | ⟨z1, _⟩
                      · rw [nD3] at z1; cases z1
                      · rw [eD3] at z1; cases z1
                  have eD4 : H4 D = some (.lst vacc) := g4.ext D _ eD3 lst_nt mD.2.2
                  have nH : ∀ b o, H1 b = some o → b ≠ D := fun b o z e => by rw [e, hD] at z; cases z
                  have nF : ∀ b o, F4 b = some o → b ≠ D := fun b o z e => by rw [e, nD4] at z; cases z
                  have raN : RA F4 (vacc ++ [v]) (acc ++ [d]) := ra_app (ra_mono (fun b o z => g4.sub b o (g3.sub b o z)) _ _ ra) (.cons r4 .nil)
                  have gr5 : Gr g.T t.ad F1 H1 F4 (upd H4 D (.lst (vacc ++ [v]))) := by
                    refine ⟨⟨fun b o z1 z2 z3 => ?_, fun b z => ?_, ?_, fun b ps z => ?_⟩, gr4.sub, fun b o z => ?_, gr4.new, fun b xs z => ?_⟩
                    · rw [upd_ne (nH b o z1)]; exact gr4.ext b o z1 z2 z3
                    · by_cases hb : b = D
                      · rw [hb, upd_same] at z; cases z
                      · rw [upd_ne hb] at z; exact gr4.dom b z
                    · exact gr4.tab.wrote eD4 lst_nt fun c q z => by unfold LamX.CodeO at z; cases z
                    · obtain ⟨p1, h1⟩ := gr4.tbl b ps z
                      exact ⟨p1, by rw [upd_ne (fun e => by rw [e, eD4] at h1; cases h1)]; exact h1⟩
                    · rw [upd_ne (nF b o z)]; exact gr4.inc b o z
                    · by_cases hb : b = D
                      · rw [hb, upd_same] at z; cases z
                      · rw [upd_ne hb] at z; exact gr4.tups b xs z
                  refine ⟨vacc, eD4, by rw [ra_len ra]; exact Nat.lt_of_lt_of_le (show acc.length < 100001 by omega) (by decide), rfl, hlt, acc ++ [d], vacc ++ [v], dc4, F4, gr5, fun a ha => ?_, nD4, upd_same, raN, by simp; omega, hp'⟩
                  obtain ⟨z1, z2, z3⟩ := d4 a ha
                  refine ⟨z1, z2, ?_⟩
                  rw [upd_ne (fun z => mD.2.2 (by rw [ha, z]))]
                  exact z3
                | ol _ => exact hp'.elim
                | fd _ => exact hp'.elim
                | od _ => exact hp'.elim
                | dice => exact hp'.elim
                | scr _ => exact hp'.elim
              | exn n => simp only [q2] at hp'; exact hp'.elim
              | stuck => simp only [q2] at hp'; exact hp'.elim
            | false =>
              rw [if_neg Bool.false_ne_true]
              exact ⟨rfl, hlt, acc, vacc, dc3, F3, gr3, d3, nD3, eD3, ra_mono g3.sub _ _ ra, by omega, hp'⟩
          | exn n => simp only [q] at hp'; exact hp'.elim
          | stuck => simp only [q] at hp'; exact hp'.elim
    · left
      have e : i = xs.length := by omega
      refine ⟨wst (by omega), ?_⟩
      rw [e, List.drop_length] at hp'
      have hp2 : PostG g t E (fun F H v x => VR g t F H v x) F1 H1 (.ok (.p (.list acc), dc')) Q := hp'
      have up : ∀ b o, F' b = some o → upd F' D (.lst vacc) b = some o := fun b o z => by rw [upd_ne (ne_of_none z nD)]; exact z
      refine hp2 (.ref D) (upd F' D (.lst vacc)) H' ⟨gr.toGrX, fun b o z => up b o (gr.sub b o z), fun b o z => ?_, fun b o z => ?_, fun b xs z => (gr.tups b xs z).imp (up b _) id⟩ (fun a ha => ?_) (.lst upd_same (ra_mono up _ _ ra))
      · by_cases hb : b = D
        · rw [hb, upd_same] at z; rw [hb, eD]; exact z
        · rw [upd_ne hb] at z; exact gr.inc b o z
      · by_cases hb : b = D
        · rw [hb, upd_same] at z
          cases z
          rw [hb]
          exact .inr ⟨hD, lst_nt⟩
        · rw [upd_ne hb] at z; exact gr.new b o z
      · obtain ⟨z1, z2, z3⟩ := dd a ha
        have : a ≠ D := fun z => mD.2.2 (by rw [ha, z])
        exact ⟨by rw [upd_ne this]; exact z1, z2, z3⟩
  · exact hp1.elim
/-- the reading that a meaning gives -/
def semT (g : Cg) (t : Ct) (E : XK) {A α : Type} (rel : Hp → Hp → A → α → Prop) (f : SM α) : L2.St → Hp → (A → Hp → Prop) → Prop := fun σ H Q => ∃ ρ dc F, SR g t ρ dc F σ H ∧ PostG g t E rel F H (f ρ dc) Q
theorem semT_ev {A α : Type} {rel : Hp → Hp → A → α → Prop} {f : SM α} : EvG g t E rel (semT g t E rel f) f := fun ρ dc F σ H Q s hp => ⟨ρ, dc, F, s, hp⟩
theorem DE.pe {e : Expr} {f : SE} (h : DE X g t E e f) : PE X e (semT g t E (fun F H v x => VR g t F H v x) f) := by
  obtain ⟨te, p, ee⟩ := h
  exact ⟨fun pins s σ H Q I ⟨ρ, dc, F, sr, hp⟩ => p.run pins s σ H Q I (ee ρ dc F σ H Q sr hp)⟩
theorem DTs.pe {e : List Expr} {f : SM Bool} (h : DTs X g t E e f) : PTs X e (semT g t E (fun _ _ v x => v = x) f) := by
  obtain ⟨te, p, ee⟩ := h
  exact ⟨fun pins s σ H Q I ⟨ρ, dc, F, sr, hp⟩ => p.run pins s σ H Q I (ee ρ dc F σ H Q sr hp)⟩
def semG (g : Cg) (t : Ct) (is : List Nat) (f : Tg) : TG := fun v σ H Q => ∃ d ρ ρ' dc F, SR g t ρ dc F σ H ∧ R F v d ∧ f d ρ = some ρ' ∧ ∀ σ', Only is σ σ' → SR g t ρ' dc F σ' H → Q σ' H
theorem DG.pg {tg : Expr} {is : List Nat} {f : Tg} (h : DG X g t tg is f) : PG X tg (semG g t is f) := by
  obtain ⟨te, p, ee⟩ := h
  exact ⟨fun pins s σ H v u Q I r ⟨d, ρ, ρ', dc, F, sr, rd, hf, hq⟩ => p.run pins s σ H v u Q I r (ee d ρ ρ' dc F σ H v Q sr rd hf hq)⟩
theorem semG_ev {is : List Nat} {f : Tg} : ∀ d ρ ρ' dc F σ H v Q, SR g t ρ dc F σ H → R F v d → f d ρ = some ρ' → (∀ σ', Only is σ σ' → SR g t ρ' dc F σ' H → Q σ' H) → semG g t is f v σ H Q :=
  fun d ρ ρ' dc F σ H v Q s r h q => ⟨d, ρ, ρ', dc, F, s, r, h, q⟩
theorem de_lc {elt tg iter : Expr} {ifs : List Expr} {scope : Scope} {own : List (Str × Nat)} {is : List Nat} {fi : SM (List PyData)} {tf : Tg} {ft : SM Bool} {fe : SE} (hN : X.N.Nodup) (ok : BlkOk X.N X.env.scope scope own) (hi : DIc X g t E tg iter fi)
    (hg : ∀ (s : Shared) (H : Hp) (C : Addr) (cl : List (Str × Addr)) (fp : List Addr), DG (X.blk s H scope (compEnvC scope cl C X.env) fp) g t tg is tf)
    (ht : ∀ (s : Shared) (H : Hp) (C : Addr) (cl : List (Str × Addr)) (fp : List Addr), DTs (X.blk s H scope (compEnvC scope cl C X.env) fp) g t E0 ifs ft)
    (he : ∀ (s : Shared) (H : Hp) (C : Addr) (cl : List (Str × Addr)) (fp : List Addr), DE (X.blk s H scope (compEnvC scope cl C X.env) fp) g t E0 elt fe)
    (hv : ∀ i ∈ is, i ∈ own.map (·.2) := by decide) (hc : X.calm = true := by rfl) (hs : ∀ x, foldedSetIterable iter X.env x = pure x := by intro _; rfl) :
    DE X g t E (.ListComp elt [⟨tg, iter, ifs, 0⟩] scope pos) (eComp fi tf (own.map (·.2)) ft fe) := by
  obtain ⟨wi, pi, ei⟩ := hi
  exact ⟨_, pe_lc hc hN pi ok (fun s H C cl fp => (hg s H C cl fp).pg) (fun s H C cl fp => (ht s H C cl fp).pe) (fun s H C cl fp => (he s H C cl fp).pe) hs, comp_ev ei semG_ev hv semT_ev semT_ev⟩
theorem ds_setLc {i : Nat} {y : Str} {py : Pos} {elt tg iter : Expr} {ifs : List Expr} {scope : Scope} {own : List (Str × Nat)} {is : List Nat} {cpos : Pos} {fi : SM (List PyData)} {tf : Tg} {ft : SM Bool} {fe : SE} (hN : X.N.Nodup) (ok : BlkOk X.N X.env.scope scope own) (hsw : swapsWith (.ListComp elt [⟨tg, iter, ifs, 0⟩] scope cpos) (some (.Name y py)) pos.line X.env = pure true) (hi : DIc X g t E tg iter fi)
    (hg : ∀ (s : Shared) (H : Hp) (C : Addr) (cl : List (Str × Addr)) (fp : List Addr), DG (X.blk s H scope (compEnvC scope cl C X.env) fp) g t tg is tf)
    (ht : ∀ (s : Shared) (H : Hp) (C : Addr) (cl : List (Str × Addr)) (fp : List Addr), DTs (X.blk s H scope (compEnvC scope cl C X.env) fp) g t E0 ifs ft)
    (he : ∀ (s : Shared) (H : Hp) (C : Addr) (cl : List (Str × Addr)) (fp : List Addr), DE (X.blk s H scope (compEnvC scope cl C X.env) fp) g t E0 elt fe)
    (hv : ∀ i ∈ is, i ∈ own.map (·.2) := by decide) (hy : X.N[i]? = some y := by rfl) (hyl : X.env.scope.names.lookup y = some .local := by rfl)
    (hc : X.calm = true := by rfl) (hs : ∀ x, foldedSetIterable iter X.env x = pure x := by intro _; rfl) :
    DS X g t E (.Assign [.Name y py] (.ListComp elt [⟨tg, iter, ifs, 0⟩] scope cpos) pos) (sSet i (eComp fi tf (own.map (·.2)) ft fe)) := by
  obtain ⟨wi, pi, ei⟩ := hi
  exact ⟨_, ps_setLc hc hN hy hyl hsw pi ok (fun s H C cl fp => (hg s H C cl fp).pg) (fun s H C cl fp => (ht s H C cl fp).pe) (fun s H C cl fp => (he s H C cl fp).pe) hs, fun ρ dc F σ H D s hp => asg_ev (comp_ev ei semG_ev hv semT_ev semT_ev) s hp⟩
end
end DL

set_option maxHeartbeats 4000000
namespace DL
open PySem PySem.Spec PyProof.Rows L2
section
variable {X : Cx} {g : Cg} {t : Ct} {E : XK} {pos : Pos}
/-! ### writing to one's own object -/
theorem VR.wrote {F H : Hp} {a : Addr} {o : HO} {v : V} {y : Val} (m : Mine t F a) (h : VR g t F H v y) (hd : y.own = true → v ≠ .ref a) : VR g t F (upd H a o) v y := by
  cases y with
  | p d => exact h
  | ol ds =>
    obtain ⟨b, vs, rfl, hm, h1, h2⟩ := h
    have hb : b ≠ a := fun z => hd rfl (by rw [z])
    exact ⟨b, vs, rfl, hm, by rw [upd_ne hb]; exact h1, h2⟩
  | fd kvs => exact h
  | od kvs =>
    obtain ⟨b, rfl, hm, h1⟩ := h
    have hb : b ≠ a := fun z => hd rfl (by rw [z])
    exact ⟨b, rfl, hm, by rw [upd_ne hb]; exact h1⟩
  | dice => exact h
  | scr _ => exact h
theorem Gr.wrote {F H : Hp} {a : Addr} {o o' : HO} (gr : Gr g.T t.ad t.F0 t.H0 F H) (hF : F a = none) (h0 : t.H0 a = none ∨ t.ad = some a) (h : H a = some o) (n : NT o) (hc : ∀ c q, o ≠ LamX.CodeO c q) (n' : ∀ xs, o' ≠ .tup xs := by exact fun _ h => by cases h) : Gr g.T t.ad t.F0 t.H0 F (upd H a o') where
  ext := fun b u q nt ne => by
    have hb : b ≠ a := by
      rintro rfl
      rcases h0 with h0 | h0
      · rw [h0] at q; cases q
      · exact ne h0
    rw [upd_ne hb]; exact gr.ext b u q nt ne
  dom := fun b q => by
    by_cases hb : b = a
    · rw [hb, upd_same] at q; cases q
    · rw [upd_ne hb] at q; exact gr.dom b q
  tab := gr.tab.wrote h n hc
  tbl := fun b ps q => by
    obtain ⟨p1, h1⟩ := gr.tbl b ps q
    exact ⟨p1, by rw [upd_ne (fun e => by rw [e, h] at h1; exact n p1 (Option.some.inj h1))]; exact h1⟩
  tups := fun b xs q => by
    by_cases hb : b = a
    · rw [hb, upd_same] at q; exact absurd (Option.some.inj q) (n' xs)
    · rw [upd_ne hb] at q; exact gr.tups b xs q
  sub := gr.sub
  inc := fun b u q => by
    rw [upd_ne (fun z => by rw [z, hF] at q; cases q)]; exact gr.inc b u q
  new := gr.new
theorem SR.wrote {ρ : Rho} {dc : Dc} {F H : Hp} {σ : L2.St} {i : Nat} {x y : Val} {a : Addr} {o o' : HO} (s : SR g t ρ dc F σ H) (e : ρ[i]? = some (some x)) (ox : x.own = true) (hv : σ[i]? = some (some (.ref a))) (m : Mine t F a) (ho : H a = some o) (n : NT o) (hc : ∀ c q, o ≠ LamX.CodeO c q)
    (hy : VR g t F (upd H a o') (.ref a) y) (n' : ∀ xs, o' ≠ .tup xs := by exact fun _ h => by cases h) : SR g t (ρ.set i (some y)) dc F σ (upd H a o') := by
  have hl : i < ρ.length := (List.getElem?_eq_some_iff.mp e).1
  refine ⟨fun j z hz => ?_, fun j k z z' w hjk e1 e2 o1 o2 e3 e4 => ?_, s.gr.wrote m.1 (.inl m.2.1) ho n hc n', fun b hb => ?_, by rw [List.length_set]; exact s.len, s.nt, fun b xs q => ?_⟩
  · by_cases hj : j = i
    · subst hj
      rw [List.getElem?_set_self hl] at hz
      cases hz
      exact ⟨_, hv, hy⟩
    · rw [List.getElem?_set_ne (Ne.symm hj)] at hz
      obtain ⟨w, hw, rw'⟩ := s.slot j z hz
      refine ⟨w, hw, rw'.wrote m fun oz ew => ?_⟩
      rw [ew] at hw
      exact s.dist j i z x _ hj hz e oz ox hw hv
  · by_cases hj : j = i
    · have hk : k ≠ i := fun z => hjk (hj.trans z.symm)
      rw [List.getElem?_set_ne (Ne.symm hk)] at e2
      subst hj
      exact s.dist j k x z' w hjk e e2 ox o2 e3 e4
    · rw [List.getElem?_set_ne (Ne.symm hj)] at e1
      by_cases hk : k = i
      · subst hk
        exact s.dist j k z x w hjk e1 e o1 ox e3 e4
      · rw [List.getElem?_set_ne (Ne.symm hk)] at e2
        exact s.dist j k z z' w hjk e1 e2 o1 o2 e3 e4
  · obtain ⟨h1, h2, h3⟩ := s.dice b hb
    have : b ≠ a := fun z => m.2.2 (by rw [hb, z])
    exact ⟨h1, h2, by rw [upd_ne this]; exact h3⟩
  · by_cases hb : b = a
    · rw [hb, upd_same] at q; exact absurd (Option.some.inj q) (n' xs)
    · rw [upd_ne hb] at q; exact s.tup b xs q
theorem lst_nc {xs : List V} : ∀ c q, (HO.lst xs) ≠ LamX.CodeO c q := fun c q h => by unfold LamX.CodeO at h; cases h
theorem dT_nc {xs : List (List Key × V)} : ∀ c q, (HO.dT xs) ≠ LamX.CodeO c q := fun c q h => by unfold LamX.CodeO at h; cases h
/-! ### x.append(e), x.extend(e), x.insert(i, e) -/
def MutD (g : Cg) (t : Ct) (r : V → List V → Hp → VK → Prop) (f : List PyData → List Val → Option (List PyData)) : Prop := ∀ F H a vs ds us xs ds' Q, (∀ b o, F b = some o → H b = some o) → H a = some (.lst vs) → RA F vs ds → VRs g t F H us xs → f ds xs = some ds' →
  (∀ vs', RA F vs' ds' → Q .non (upd H a (.lst vs'))) → r (.ref a) us H Q
def sMutL (i : Nat) (f : List PyData → List Val → Option (List PyData)) (a : SM (List Val)) : SS := fun ρ dc => match ρ[i]? with
  | some (some (.ol ds)) => SM.thn a (fun xs ρ dc => match f ds xs with
    | some ds' => .ok (.nx, ρ.set i (some (.ol ds')), dc)
    | none => .stuck) ρ dc
  | _ => .stuck
theorem ds_mutL {i : Nat} {x m : Str} {id : String} {e : Expr} {es : List Expr} {r : V → List V → Hp → VK → Prop} {f : List PyData → List Val → Option (List PyData)} {fr : SM (List Val)} {p1 apos cpos : Pos}
    (slot : Slot "list" m id) (hty : typeOf (.builtin id) = pure (.type "method_descriptor")) (hm : MtR X id r) (hd : MutD g t r f) (ha : DA X g t E (e :: es) fr)
    (hN : X.N[i]? = some x := by rfl) (hv : Vis X.env.scope x := by first | exact Or.inl rfl | exact Or.inr (Or.inl rfl) | exact Or.inr (Or.inr rfl)) (hdb : (x == ("__debug__" : Str)) = false := by decide)
    (hcd : (x == ("__classdict__" : Str)) = false := by decide) (hs0 : swapsWith (.Call (.Attribute (.Name x p1) m apos) (e :: es) [] cpos) none pos.line X.env = pure false := by rfl)
    (hbase : attributeBase (.Name x p1) m X.env (eval (.Name x p1) X.env) = eval (.Name x p1) X.env := by rfl)
    (hfew : ((backTo cpos (starEach (e :: es) X.env)).all (fun x => !x.1) && (backToKw cpos (keywordEach [] X.env)).all (fun x => x.1.isSome)
      && decide ((e :: es).length + ([] : List Keyword).length + (if ([] : List Keyword).isEmpty then 0 else 1) < 30)) = true := by rfl)
    (hline : (apos.endLine == cpos.line) = true := by rfl) (hs : starEach (e :: es) X.env = (false, eval e X.env) :: starEach es X.env := by rfl) (hplain : (backTo cpos (starEach es X.env)).any (·.1) = false := by rfl) :
    DS X g t E (.Expr (.Call (.Attribute (.Name x p1) m apos) (e :: es) [] cpos) pos) (sMutL i f fr) := by
  obtain ⟨ta, pa, ea⟩ := ha
  refine ⟨_, ps_expr (pe_bm F.plainAttrs_list slot hty hm (pe_var hN hv hdb hcd) pa hbase hfew hline hs hplain) hs0, fun ρ dc F σ H D s hp => ?_⟩
  unfold sMutL at hp
  split at hp
  · rename_i ds q
    obtain ⟨v, hv', a, vs, rfl, hm', hH, hr⟩ := s.slot i _ q
    refine ⟨_, hv', .inl ⟨rfl, vs, .inl (.inl hH)⟩, ?_⟩
    refine ea.thn s hp fun us xs dc1 F1 H1 g1 s1 r1 hp1 => ?_
    obtain ⟨v1, hv1, a1, vs1, e1, hm1, hH1, hr1⟩ := s1.slot i _ q
    rw [hv'] at hv1
    cases hv1
    cases e1
    split at hp1
    · rename_i ds' hds
      refine hd F1 H1 a vs1 ds us xs ds' _ s1.inc hH1 hr1 r1 hds fun vs' hr' => ?_
      exact hp1 F1 σ _ (fun _ _ z => z) (s1.wrote q rfl hv' hm1 hH1 lst_nt lst_nc ⟨a, vs', rfl, hm1, upd_same, hr'⟩)
    · exact hp1.elim
  · exact hp.elim
def mAppend (ds : List PyData) (xs : List Val) : Option (List PyData) := match xs with
  | [.p d] => if ds.length < 100000 then some (ds ++ [d]) else none
  | _ => none
theorem mut_append : MutD g t rAppend mAppend := by
  intro F H a vs ds us xs ds' Q i hH hr ru hf q
  unfold mAppend at hf
  split at hf
  · split at hf
    · rename_i d hl
      cases hf
      cases ru with
      | cons r1 r2 =>
        cases r2
        refine ⟨a, vs, _, rfl, rfl, hH, ?_, q _ (ra_app hr (.cons r1 .nil))⟩
        rw [ra_len hr]
        exact Nat.lt_of_lt_of_le hl (by decide)
    · cases hf
  · cases hf
def mExtend (ds : List PyData) (xs : List Val) : Option (List PyData) := match xs with
  | [x] => match lsOf x with
    | some es => if ds.length + es.length ≤ 100000 then some (ds ++ es) else none
    | none => none
  | _ => none
theorem mut_extend : MutD g t rExtend mExtend := by
  intro F H a vs ds us xs ds' Q i hH hr ru hf q
  unfold mExtend at hf
  split at hf
  · rename_i x
    split at hf
    · rename_i es he
      split at hf
      · rename_i hl
        cases hf
        cases ru with
        | cons r1 r2 =>
          cases r2
          obtain ⟨b, ws, rfl, hb, hw⟩ := vr_ls i r1 he
          refine ⟨a, b, vs, ws, rfl, rfl, hH, hb, ?_, q _ (ra_app hr hw)⟩
          rw [ra_len hr, ra_len hw]
          exact sz hl
      · cases hf
    · cases hf
  · cases hf
def mInsert (ds : List PyData) (xs : List Val) : Option (List PyData) := match xs with
  | [.p (.int i), .p d] => if ds.length < 100000 ∧ 0 ≤ i ∧ i ≤ 100000 then some (ds.take i.toNat ++ [d] ++ ds.drop i.toNat) else none
  | _ => none
abbrev rInsert : V → List V → Hp → VK → Prop := fun x vs H Q => ∃ (l : Addr) (xs : List V) (i : Int) (y : V), x = .ref l ∧ vs = [.int i, y] ∧ H l = some (.lst xs) ∧ xs.length < sizeLine ∧ 0 ≤ i ∧ i < 2 ^ 63 ∧
    Q .non (upd H l (.lst (xs.take i.toNat ++ [y] ++ xs.drop i.toNat)))
theorem mut_insert : MutD g t rInsert mInsert := by
  intro F H a vs ds us xs ds' Q i hH hr ru hf q
  unfold mInsert at hf
  split at hf
  · rename_i k d
    split at hf
    · rename_i hl
      cases hf
      cases ru with
      | cons r1 r2 =>
        cases r2 with
        | cons r2 r3 =>
          cases r3
          obtain rfl := vr_int r1
          refine ⟨a, vs, k, _, rfl, rfl, hH, ?_, hl.2.1, by omega, q _ (ra_app (ra_app (ra_take _ hr) (.cons r2 .nil)) (ra_drop _ hr))⟩
          rw [ra_len hr]
          exact Nat.lt_of_lt_of_le hl.1 (by decide)
    · cases hf
  · cases hf
/-! ### dicts keyed by pairs -/
def putP (kvs : PD) (k : Int × Int) (v : V) : PD := if (kvs.any fun kv => decide (kv.1 = k)) = true then kvs.map (fun kv => if kv.1 = k then (kv.1, v) else kv) else kvs ++ [(k, v)]
def valP (kvs : PD) (k : Int × Int) : Option V := (kvs.find? fun kv => decide (kv.1 = k)).map (·.2)
def kP (k : Int × Int) : List Key := [.inl k.1, .inl k.2]
theorem kP_inj {a b : Int × Int} : (kP a = kP b) ↔ a = b := by
  unfold kP
  constructor
  · intro h
    have h1 := List.cons.inj h
    have h2 := List.cons.inj h1.2
    exact Prod.ext (Sum.inl.inj h1.1) (Sum.inl.inj h2.1)
  · rintro rfl; rfl
theorem kT_cons (k : Int × Int) (v : V) (r : PD) : kT ((k, v) :: r) = (kP k, v) :: kT r := rfl
theorem valV_kT (k : Int × Int) : ∀ kvs : PD, valV (kT kvs) (kP k) = valP kvs k
  | [] => rfl
  | (q, v) :: r => by
    rw [kT_cons]
    by_cases h : q = k
    · rw [valV_pos (by show kP q = kP k; rw [h])]
      unfold valP
      rw [List.find?_cons, decide_eq_true h]
      rfl
    · rw [valV_neg (fun z => h (kP_inj.mp z)), valV_kT k r]
      unfold valP
      rw [List.find?_cons, decide_eq_false h]
theorem any_kT (k : Int × Int) : ∀ kvs : PD, ((kT kvs).any fun kv => decide (kv.1 = kP k)) = kvs.any fun kv => decide (kv.1 = k)
  | [] => rfl
  | (q, v) :: r => by
    rw [kT_cons, List.any_cons, List.any_cons, any_kT k r]
    have : decide (kP q = kP k) = decide (q = k) := decide_eq_decide.mpr kP_inj
    rw [this]
theorem putK_kT (kvs : PD) (k : Int × Int) (v : V) : putK (kT kvs) (kP k) v = kT (putP kvs k v) := by
  unfold putK putP
  rw [any_kT]
  split
  · unfold kT
    rw [List.map_map, List.map_map]
    apply List.map_congr_left
    intro q _
    show (if kP q.1 = kP k then (kP q.1, v) else (kP q.1, q.2)) = _
    by_cases h : q.1 = k
    · rw [if_pos (kP_inj.mpr h)]
      show _ = (kP (if q.1 = k then (q.1, v) else q).1, (if q.1 = k then (q.1, v) else q).2)
      rw [if_pos h]
    · rw [if_neg (fun z => h (kP_inj.mp z))]
      show _ = (kP (if q.1 = k then (q.1, v) else q).1, (if q.1 = k then (q.1, v) else q).2)
      rw [if_neg h]
  · unfold kT
    rw [List.map_append]
    rfl
def pairOf : PyData → Option (Int × Int)
  | .tuple [.int a, .int b] => some (a, b)
  | _ => none
def scalV : PyData → Option V
  | .int i => some (.int i)
  | .bool b => some (.bl b)
  | _ => none
def datV : V → Option PyData
  | .int i => some (.int i)
  | .bl b => some (.bool b)
  | _ => none
theorem scal_r {F : Hp} {v w : V} {d : PyData} (h : R F v d) (e : scalV d = some w) : v = w := by
  cases h <;> cases e <;> rfl
theorem dat_r {F : Hp} {v : V} {d : PyData} (e : datV v = some d) : R F v d := by
  cases v <;> cases e
  · exact .bl _
  · exact .int _
theorem pair_r {F : Hp} {v : V} {d : PyData} {k : Int × Int} (h : R F v d) (e : pairOf d = some k) : ∃ b, v = .ref b ∧ F b = some (.tup ((kP k).map kV)) := by
  unfold pairOf at e
  split at e
  · rename_i x y
    cases e
    cases h with
    | tup h1 h2 =>
      have := ra_ints (ns := [x, y]) h2
      subst this
      exact ⟨_, rfl, h1⟩
  · cases e
def dictOf : Val → Option PD
  | .fd kvs => some kvs
  | .od kvs => some kvs
  | _ => none
theorem dict_at {F H : Hp} {v : V} {x : Val} {kvs : PD} (i : ∀ b o, F b = some o → H b = some o) (h : VR g t F H v x) (e : dictOf x = some kvs) : ∃ a, v = .ref a ∧ Rd H a (.dT (kT kvs)) := by
  cases x with
  | p _ => cases e
  | ol _ => cases e
  | fd k => cases e; obtain ⟨a, o, h1, h2⟩ := h; exact ⟨a, h1, .inr ⟨o, i _ _ h2⟩⟩
  | od k => cases e; obtain ⟨a, h1, h2, h3⟩ := h; exact ⟨a, h1, .inl h3⟩
  | dice => cases e
  | scr _ => cases e
theorem dget_rd {H : Hp} {a b : Addr} {kvs : List (List Key × V)} {k : List Key} (e : Rd H a (.dT kvs)) (eb : H b = some (.tup (k.map kV))) : DGet H a (.ref b) (valV kvs k) := .inr ⟨kvs, k, b, e, rfl, eb, rfl⟩
def vDGet : Val → Val → Option Val := fun x y => (dictOf x).bind fun kvs => match y with
  | .p d => (pairOf d).bind fun k => (valP kvs k).bind fun v => (datV v).map .p
  | _ => none
def vDIn (b : Bool) : Val → Val → Option Val := fun y x => (dictOf x).bind fun kvs => match y with
  | .p d => (pairOf d).bind fun k => some (.p (.bool ((valP kvs k).isSome == b)))
  | _ => none
variable {k : Nat} {a b e : Expr} {fa fb fe : SE}
theorem de_dget (hr : Room k X.A) (ha : DE X g t E a fa) (hb : DE X g t E b fb) (hs : NoSl b) : DE X g t E (.Subscript a b pos) (eBin vDGet fa fb) := by
  obtain ⟨ta, pa, ea⟩ := ha
  obtain ⟨tb, pb, eb⟩ := hb
  refine ⟨_, pe_dget (by have := hr.un; omega) pa pb hs, fun ρ dc F σ H Q s hp => ?_⟩
  refine ea.bind s hp fun x xa dc1 F1 H1 g1 s1 r1 hp1 => ?_
  refine eb.bind s1 hp1 fun y yb dc2 F2 H2 g2 s2 r2 hp2 => ?_
  obtain ⟨z, hz, hp3⟩ := hp2.opt
  unfold vDGet at hz
  cases h1 : dictOf xa with
  | none => rw [h1] at hz; cases hz
  | some kvs =>
    rw [h1] at hz
    obtain ⟨c, rfl, hc⟩ := dict_at s2.inc (r1.gr g2) h1
    cases yb with
    | p d =>
      have hz' : (pairOf d).bind (fun k => (valP kvs k).bind fun v => (datV v).map Val.p) = some z := hz
      cases h2 : pairOf d with
      | none => rw [h2] at hz'; cases hz'
      | some k =>
        rw [h2] at hz'
        have hz2 : (valP kvs k).bind (fun v => (datV v).map Val.p) = some z := hz'
        obtain ⟨q, rfl, hq⟩ := pair_r (show R F2 y d from r2) h2
        cases h3 : valP kvs k with
        | none => rw [h3] at hz2; cases hz2
        | some v =>
          rw [h3] at hz2
          have hz3 : (datV v).map Val.p = some z := hz2
          cases h4 : datV v with
          | none => rw [h4] at hz3; cases hz3
          | some dv =>
            rw [h4] at hz3
            cases hz3
            refine ⟨c, v, rfl, ?_, PostG.fin s2 hp3 s2.id (show R F2 v dv from dat_r h4)⟩
            have := dget_rd hc (s2.inc _ _ hq)
            rw [valV_kT, h3] at this
            exact this
    | ol _ => cases hz
    | fd _ => cases hz
    | od _ => cases hz
    | dice => cases hz
    | scr _ => cases hz
theorem din_ev {bb : Bool} {ta tb : TE} (ea : EvG g t E (fun F H v x => VR g t F H v x) ta fa) (eb : EvG g t E (fun F H v x => VR g t F H v x) tb fb) :
    EvG g t E (fun F H v x => VR g t F H v x) (fun σ H Q => ta σ H fun y H1 => tb σ H1 fun x H2 => ∃ a o, x = .ref a ∧ DGet H2 a y o ∧ Q (.bl (o.isSome == bb)) H2) (eBin (vDIn bb) fa fb) := by
  intro ρ dc F σ H Q s hp
  refine ea.bind s hp fun y yb dc1 F1 H1 g1 s1 r1 hp1 => ?_
  refine eb.bind s1 hp1 fun x xa dc2 F2 H2 g2 s2 r2 hp2 => ?_
  obtain ⟨z, hz, hp3⟩ := hp2.opt
  unfold vDIn at hz
  cases h1 : dictOf xa with
  | none => rw [h1] at hz; cases hz
  | some kvs =>
    rw [h1] at hz
    obtain ⟨c, rfl, hc⟩ := dict_at s2.inc r2 h1
    cases yb with
    | p d =>
      have hz' : (pairOf d).bind (fun k => some (Val.p (.bool ((valP kvs k).isSome == bb)))) = some z := hz
      cases h2 : pairOf d with
      | none => rw [h2] at hz'; cases hz'
      | some k =>
        rw [h2] at hz'
        cases hz'
        obtain ⟨q, rfl, hq⟩ := pair_r (show R F2 y d from r1.gr g2) h2
        refine ⟨c, valP kvs k, rfl, ?_, PostG.fin s2 hp3 s2.id (R.bl _)⟩
        have := dget_rd hc (s2.inc _ _ hq)
        rw [valV_kT] at this
        exact this
    | ol _ => cases hz
    | fd _ => cases hz
    | od _ => cases hz
    | dice => cases hz
    | scr _ => cases hz
theorem beq_t (o : Bool) : (o == true) = o := by cases o <;> rfl
theorem beq_f (o : Bool) : (o == false) = !o := by cases o <;> rfl
theorem de_din (hr : Room k X.A) (ha : DE X g t E a fa) (hb : DE X g t E b fb) (h1 : behindInMarks .In b = false := by first | exact nobehind _ (by decide) (by decide) | rfl) : DE X g t E (.Compare a [.In] [b] pos) (eBin (vDIn true) fa fb) := by
  obtain ⟨ta, pa, ea⟩ := ha
  obtain ⟨tb, pb, eb⟩ := hb
  refine ⟨_, pe_cmp (pc_din (by have := hr.un; omega) pa pb) h1, ?_⟩
  have := din_ev (bb := true) ea eb
  simp only [beq_t] at this
  exact this
theorem de_dnotin (hr : Room k X.A) (ha : DE X g t E a fa) (hb : DE X g t E b fb) (h1 : behindInMarks .NotIn b = false := by first | exact nobehind _ (by decide) (by decide) | rfl) : DE X g t E (.Compare a [.NotIn] [b] pos) (eBin (vDIn false) fa fb) := by
  obtain ⟨ta, pa, ea⟩ := ha
  obtain ⟨tb, pb, eb⟩ := hb
  refine ⟨_, pe_cmp (pc_dnotin (by have := hr.un; omega) pa pb) h1, ?_⟩
  have := din_ev (bb := false) ea eb
  simp only [beq_f] at this
  exact this
theorem tB_ev {te : TE} (ee : EvG g t E (fun F H v x => VR g t F H v x) te fe) : EvG g t E (fun _ _ v x => v = x) (tB te) (tstV fe) := fun ρ dc F σ H Q s hp => by
  refine ee.bind s hp fun x xa dc1 F1 H1 g1 s1 r1 hp1 => ?_
  obtain ⟨k, rfl, hp2⟩ := hp1.tst
  exact ⟨k, vr_bool r1, PostG.fin s1 hp2 s1.id rfl⟩
theorem dt_din (hr : Room k X.A) (ha : DE X g t E a fa) (hb : DE X g t E b fb) (h1 : behindInMarks .In b = false := by first | exact nobehind _ (by decide) (by decide) | rfl) : DT X g t E (.Compare a [.In] [b] pos) (tstV (eBin (vDIn true) fa fb)) := by
  obtain ⟨ta, pa, ea⟩ := ha
  obtain ⟨tb, pb, eb⟩ := hb
  refine ⟨_, pt_cmp (pc_din (by have := hr.un; omega) pa pb) h1, tB_ev ?_⟩
  have := din_ev (bb := true) ea eb
  simp only [beq_t] at this
  exact this
theorem dt_dnotin (hr : Room k X.A) (ha : DE X g t E a fa) (hb : DE X g t E b fb) (h1 : behindInMarks .NotIn b = false := by first | exact nobehind _ (by decide) (by decide) | rfl) : DT X g t E (.Compare a [.NotIn] [b] pos) (tstV (eBin (vDIn false) fa fb)) := by
  obtain ⟨ta, pa, ea⟩ := ha
  obtain ⟨tb, pb, eb⟩ := hb
  refine ⟨_, pt_cmp (pc_dnotin (by have := hr.un; omega) pa pb) h1, tB_ev ?_⟩
  have := din_ev (bb := false) ea eb
  simp only [beq_f] at this
  exact this
/-- d.get(k, x) -/
def eDGet2 (fo fk fx : SE) : SE := SM.bind fo fun x => SM.bind (SM.opt (dictOf x)) fun kvs => SM.bind fk fun y => SM.bind fx fun z => SM.opt (match y, z with
  | .p d, .p dz => (pairOf d).bind fun k => match valP kvs k with
    | some v => (datV v).map .p
    | none => some (.p dz)
  | _, _ => none)
theorem de_dget2 {o f : Expr} {fo ff : SE} {apos cpos : Pos} (hr : Room k X.A) (ho : DE X g t E o fo) (he : DE X g t E e fe) (hf : DE X g t E f ff) (m : M2 X o "get" apos e f cpos := by exact ⟨by rfl, by rfl, by rfl, by rfl⟩) : DE X g t E (.Call (.Attribute o "get" apos) [e, f] [] cpos) (eDGet2 fo fe ff) := by
  obtain ⟨to, po, eo⟩ := ho
  obtain ⟨te, pe, ee⟩ := he
  obtain ⟨tf, pf, ef⟩ := hf
  refine ⟨_, pe_dget2 (by have := hr.un; omega) po pe pf m, fun ρ dc F σ H Q s hp => ?_⟩
  refine eo.bind s hp fun x xa dc1 F1 H1 g1 s1 r1 hp1 => ?_
  unfold SM.bind SM.opt at hp1
  cases h1 : dictOf xa with
  | none => rw [h1] at hp1; exact hp1.elim
  | some kvs =>
    rw [h1] at hp1
    have hp1' : PostG g t E (fun F H v x => VR g t F H v x) F1 H1 (SM.bind fe (fun y => SM.bind ff fun z => SM.opt (match y, z with
      | .p d, .p dz => (pairOf d).bind fun k => match valP kvs k with
        | some v => (datV v).map .p
        | none => some (.p dz)
      | _, _ => none)) ρ dc1) Q := hp1
    obtain ⟨c, rfl, hc⟩ := dict_at s1.inc r1 h1
    refine ⟨c, rfl, .inr ⟨_, hc⟩, ?_⟩
    refine ee.bind s1 hp1' fun y yb dc2 F2 H2 g2 s2 r2 hp2 => ?_
    refine ef.bind s2 hp2 fun z zb dc3 F3 H3 g3 s3 r3 hp3 => ?_
    obtain ⟨w, hw, hp4⟩ := hp3.opt
    obtain ⟨c', e', hc'⟩ := dict_at s3.inc ((r1.gr g2).gr g3) h1
    cases e'
    cases yb with
    | p d =>
      cases zb with
      | p dz =>
        have hw' : (pairOf d).bind (fun k => match valP kvs k with
          | some v => (datV v).map Val.p
          | none => some (.p dz)) = some w := hw
        cases h2 : pairOf d with
        | none => rw [h2] at hw'; cases hw'
        | some k =>
          rw [h2] at hw'
          have hw2 : (match valP kvs k with
            | some v => (datV v).map Val.p
            | none => some (.p dz)) = some w := hw'
          obtain ⟨q, rfl, hq⟩ := pair_r (show R F3 y d from r2.gr g3) h2
          have dg := dget_rd hc' (s3.inc _ _ hq)
          rw [valV_kT] at dg
          refine ⟨_, dg, ?_⟩
          cases h3 : valP kvs k with
          | none =>
            rw [h3] at hw2
            cases hw2
            exact PostG.fin s3 hp4 s3.id r3
          | some v =>
            rw [h3] at hw2
            have hw3 : (datV v).map Val.p = some w := hw2
            cases h4 : datV v with
            | none => rw [h4] at hw3; cases hw3
            | some dv =>
              rw [h4] at hw3
              cases hw3
              exact PostG.fin s3 hp4 s3.id (show R F3 v dv from dat_r h4)
      | ol _ => cases hw
      | fd _ => cases hw
      | od _ => cases hw
      | dice => cases hw
      | scr _ => cases hw
    | ol _ => cases hw
    | fd _ => cases hw
    | od _ => cases hw
    | dice => cases hw
    | scr _ => cases hw
/-- d[k] = v, d one's own -/
def sDPut (i : Nat) (fk fv : SE) : SS := SM.thn fv fun v ρ dc => match ρ[i]? with
  | some (some (.od kvs)) => SM.thn fk (fun y ρ dc => match v, y with
    | .p dv, .p dy => match scalV dv, pairOf dy with
      | some w, some k => if kvs.length < 100000 then .ok (.nx, ρ.set i (some (.od (putP kvs k w))), dc) else .stuck
      | _, _ => .stuck
    | _, _ => .stuck) ρ dc
  | _ => .stuck
theorem ds_dput {i : Nat} {x : Str} {ke value : Expr} {fk fv : SE} {p1 pos' : Pos} (hr : Room k X.A) (hi : DE X g t E ke fk) (hv : DE X g t E value fv)
    (hs : swapsWith value (some (.Subscript (.Name x p1) ke pos')) pos.line X.env = pure false := by rfl)
    (hN : X.N[i]? = some x := by rfl) (hvis : Vis X.env.scope x := by first | exact Or.inl rfl | exact Or.inr (Or.inl rfl) | exact Or.inr (Or.inr rfl)) (hdb : (x == ("__debug__" : Str)) = false := by decide)
    (hcd : (x == ("__classdict__" : Str)) = false := by decide) : DS X g t E (.Assign [.Subscript (.Name x p1) ke pos'] value pos) (sDPut i fk fv) := by
  obtain ⟨tk, pk, ek⟩ := hi
  obtain ⟨tv, pv, ev⟩ := hv
  refine ⟨_, ps_dput (by have := hr.un; omega) (pe_var hN hvis hdb hcd) pk pv hs, fun ρ dc F σ H D s hp => ?_⟩
  refine ev.thn s hp fun v va dc1 F1 H1 g1 s1 r1 hp1 => ?_
  split at hp1
  · rename_i kvs q
    obtain ⟨u, hu, a, rfl, hm, hH⟩ := s1.slot i _ q
    refine ⟨_, hu, ?_⟩
    refine ek.thn s1 hp1 fun y ya dc2 F2 H2 g2 s2 r2 hp2 => ?_
    obtain ⟨u', hu', a', e', hm', hH'⟩ := s2.slot i _ q
    rw [hu] at hu'
    cases hu'
    cases e'
    split at hp2
    · rename_i dv dy
      split at hp2
      · rename_i w k hw hk
        split at hp2
        · rename_i hl
          have e1 := scal_r (show R F1 v dv from r1) hw
          subst e1
          obtain ⟨b, rfl, hb⟩ := pair_r (show R F2 y dy from r2) hk
          refine ⟨a, _, rfl, DPut.t hH' (s2.inc _ _ hb) (by unfold kT; rw [List.length_map]; exact Nat.lt_of_lt_of_le hl (by decide)), ?_⟩
          rw [putK_kT]
          exact hp2 F2 σ _ (fun _ _ z => z) (s2.wrote q rfl hu hm' hH' dT_nt dT_nc ⟨a, rfl, hm', upd_same⟩)
        · exact hp2.elim
      · exact hp2.elim
    · exact hp2.elim
  · exact hp1.elim
/-! ### dice -/
def dcAt (dc : Dc) : Nat → Int
  | 0 => dc.1
  | 1 => dc.2.1
  | _ => dc.2.2
def eDice (i k : Nat) : SE := fun ρ dc => match ρ[i]? with
  | some (some .dice) => .ok (.p (.int (dcAt dc k)), dc)
  | _ => .stuck
def dcSet (dc : Dc) (n : Int) : Nat → Dc
  | 0 => (n, dc.2.1, dc.2.2)
  | 1 => (dc.1, n, dc.2.2)
  | _ => (dc.1, dc.2.1, n)
def sDice (i k : Nat) (f : SE) : SS := SM.thn f fun v ρ dc => match ρ[i]? with
  | some (some .dice) => match v with
    | .p (.int n) => .ok (.nx, ρ, dcSet dc n k)
    | _ => .stuck
  | _ => .stuck
theorem de_dice {i kk : Nat} {x : Str} {j : Nat} {p1 p2 : Pos} (h3 : kk < 3 := by decide) (hN : X.N[i]? = some x := by rfl) (hvis : Vis X.env.scope x := by first | exact Or.inl rfl | exact Or.inr (Or.inl rfl) | exact Or.inr (Or.inr rfl)) (hdb : (x == ("__debug__" : Str)) = false := by decide)
    (hcd : (x == ("__classdict__" : Str)) = false := by decide) : DE X g t E (.Subscript (.Name x p1) (.Constant (.int (kk : Nat)) j p2) pos) (eDice i kk) := by
  refine ⟨_, pe_ix ix_D (pe_var hN hvis hdb hcd) pe_int (fun _ _ => rfl), fun ρ dc F σ H Q s hp => ?_⟩
  unfold eDice at hp
  split at hp
  · rename_i q
    obtain ⟨v, hv, a, rfl, ha⟩ := s.slot i _ q
    obtain ⟨h1, h2, h4⟩ := s.dice a ha
    refine ⟨_, hv, .inl ⟨a, [.int dc.1, .int dc.2.1, .int dc.2.2], kk, .int (dcAt dc kk), rfl, rfl, .inl (.inl h4), ?_, PostG.fin s hp s.id (R.int _)⟩⟩
    match kk, h3 with
    | 0, _ => rfl
    | 1, _ => rfl
    | 2, _ => rfl
  · exact hp.elim
theorem ds_dice {i kk : Nat} {x : Str} {j : Nat} {p1 p2 ps : Pos} {value : Expr} {fv : SE} (hv : DE X g t E value fv) (h3 : kk < 3 := by decide) (hN : X.N[i]? = some x := by rfl) (hvis : Vis X.env.scope x := by first | exact Or.inl rfl | exact Or.inr (Or.inl rfl) | exact Or.inr (Or.inr rfl)) (hdb : (x == ("__debug__" : Str)) = false := by decide)
    (hcd : (x == ("__classdict__" : Str)) = false := by decide)
    (hs : swapsWithSole [.Subscript (.Name x p1) (.Constant (.int (kk : Nat)) j p2) ps] value pos.line X.env = pure false := by rfl) (hw : swappedStores [.Subscript (.Name x p1) (.Constant (.int (kk : Nat)) j p2) ps] value X.env = pure none := by rfl)
    (h1 : (assignEach [.Subscript (.Name x p1) (.Constant (.int (kk : Nat)) j p2) ps] X.env).map (·.2) = [assign (.Subscript (.Name x p1) (.Constant (.int (kk : Nat)) j p2) ps) X.env] := by rfl) :
    DS X g t E (.Assign [.Subscript (.Name x p1) (.Constant (.int (kk : Nat)) j p2) ps] value pos) (sDice i kk fv) := by
  obtain ⟨tv, pv, ev⟩ := hv
  refine ⟨_, ps_asg pv (pg_sub (pe_var hN hvis hdb hcd) pe_int set_list) hs hw h1, fun ρ dc F σ H D s hp => ?_⟩
  refine ev.thn s hp fun v va dc1 F1 H1 g1 s1 r1 hp1 => ?_
  split at hp1
  · rename_i q
    obtain ⟨u, hu, a, rfl, ha⟩ := s1.slot i _ q
    obtain ⟨h1', h2, h4⟩ := s1.dice a ha
    split at hp1
    · rename_i n
      obtain rfl := vr_int r1
      refine ⟨_, hu, a, [.int dc1.1, .int dc1.2.1, .int dc1.2.2], kk, kk, rfl, rfl, h4, ?_, ?_⟩
      · match kk, h3 with
        | 0, _ => rfl
        | 1, _ => rfl
        | 2, _ => rfl
      · have e : [V.int dc1.1, .int dc1.2.1, .int dc1.2.2].set kk (.int n) = [.int (dcSet dc1 n kk).1, .int (dcSet dc1 n kk).2.1, .int (dcSet dc1 n kk).2.2] := by
          match kk, h3 with
          | 0, _ => rfl
          | 1, _ => rfl
          | 2, _ => rfl
        rw [e]
        refine hp1 F1 σ _ (fun _ _ z => z) ⟨fun l z hz => ?_, s1.dist, s1.gr.wrote h1' (.inr ha) h4 lst_nt lst_nc, fun b hb => ?_, s1.len, s1.nt, fun b xs q => ?_⟩
        · obtain ⟨w, hw', rw'⟩ := s1.slot l z hz
          refine ⟨w, hw', ?_⟩
          cases z with
          | p d => exact rw'
          | ol ds =>
            obtain ⟨c, vs, r1, r2, r3, r4⟩ := rw'
            exact ⟨c, vs, r1, r2, by rw [upd_ne (fun z => r2.2.2 (by rw [ha, z]))]; exact r3, r4⟩
          | fd d => exact rw'
          | od d =>
            obtain ⟨c, r1, r2, r3⟩ := rw'
            exact ⟨c, r1, r2, by rw [upd_ne (fun z => r2.2.2 (by rw [ha, z]))]; exact r3⟩
          | dice => exact rw'
          | scr _ => exact rw'
        · rw [ha] at hb
          cases hb
          exact ⟨h1', h2, upd_same⟩
        · by_cases hb : b = a
          · rw [hb, upd_same] at q; cases q
          · rw [upd_ne hb] at q; exact s1.tup b xs q
    · exact hp1.elim
  · exact hp1.elim
end
end DL

set_option maxHeartbeats 4000000
namespace DL
open PySem PySem.Spec PyProof.Rows L2
/-! ### defs -/
abbrev FM := List Val → Dc → Res (Val × Dc)
def Val.arg : Val → Bool
  | .p _ => true
  | .fd _ => true
  | .dice => true
  | .scr _ => true
  | _ => false
def fnM (len : Nat) (body : SS) : FM := fun xs dc => match body (xs.map some ++ List.replicate (len - xs.length) none) dc with
  | .ok (.rt v, _, dc') => .ok (v, dc')
  | .ok (.nx, _, dc') => .ok (.p .none, dc')
  | .ok (.bk, _, _) => .stuck
  | .exn n => .exn n
  | .stuck => .stuck
def DiceC (ad : Option Addr) (dc : Dc) (F H : Hp) : Prop := ∀ a, ad = some a → F a = none ∧ H a = some (.lst [.int dc.1, .int dc.2.1, .int dc.2.2])
def PostC (g : Cg) (ad : Option Addr) (F H : Hp) (r : Res (Val × Dc)) (Q : VK) (E : XK) : Prop := match r with
  | .ok (x, dc') => ∀ v F' H', Gr g.T ad F H F' H' → DiceC ad dc' F' H' → VRf g ⟨F, H, ad⟩ F' H' v x → Q v H'
  | .exn n => ∀ dx H', GrX g.T ad H H' → H dx = none → H' dx = some (.xd [(("name" : Str), .str n)]) → E (.ref g.C) (some dx) H'
  | .stuck => False
def spD (g : Cg) (n : Nat) (fm : FM) : Sp := fun vs H Q E => ∃ F xs ad dc, xs.length = n ∧ (∀ b o, F b = some o → H b = some o) ∧ (∀ b ps, F b ≠ some (.tbl ps)) ∧ (∀ b xs, H b = some (.tup xs) → F b = some (.tup xs)) ∧ Tb g.T H ∧ VRs g ⟨F, H, ad⟩ F H vs xs ∧ xs.all Val.arg = true ∧ DiceC ad dc F H ∧ PostC g ad F H (fm xs dc) Q E
theorem VR.argT {g : Cg} {t t' : Ct} {F H H' : Hp} {v : V} {x : Val} (h : VR g t F H v x) (a : x.arg = true) (e : t.ad = t'.ad) (hs : ∀ (a : Addr) (ns : List Int), SqL g.K t.H0 a (ns.map V.int) → t.ad ≠ some a → SqL g.K t'.H0 a (ns.map V.int)) : VR g t' F H' v x := by
  cases x with
  | p d => exact h
  | fd d => exact h
  | dice => obtain ⟨c, h1, h2⟩ := h; exact ⟨c, h1, by rw [← e]; exact h2⟩
  | scr ns => obtain ⟨c, h1, h2, h3⟩ := h; exact ⟨c, h1, hs c ns h2 h3, by rw [← e]; exact h3⟩
  | ol _ => cases a
  | od _ => cases a
theorem VRs.argT {g : Cg} {t t' : Ct} {F H H' : Hp} (e : t.ad = t'.ad) (hs : ∀ (a : Addr) (ns : List Int), SqL g.K t.H0 a (ns.map V.int) → t.ad ≠ some a → SqL g.K t'.H0 a (ns.map V.int)) : ∀ {vs : List V} {xs : List Val}, VRs g t F H vs xs → xs.all Val.arg = true → VRs g t' F H' vs xs
  | _, _, .nil, _ => .nil
  | _, _, .cons h r, a => by
    rw [List.all_cons, Bool.and_eq_true] at a
    exact .cons (h.argT a.1 e hs) (VRs.argT e hs r a.2)
theorem VRs.at {g : Cg} {t : Ct} {F H : Hp} : ∀ {vs : List V} {xs : List Val} {i : Nat} {x : Val}, VRs g t F H vs xs → xs[i]? = some x → ∃ v, vs[i]? = some v ∧ VR g t F H v x
  | _, _, i, x, .nil, h => by simp at h
  | v :: vs, y :: xs, 0, x, .cons h r, e => by
    have : y = x := Option.some.inj e
    subst this
    exact ⟨v, rfl, h⟩
  | v :: vs, y :: xs, i + 1, x, .cons h r, e => by
    obtain ⟨u, h1, h2⟩ := VRs.at (i := i) r (by simpa using e)
    exact ⟨u, by simpa using h1, h2⟩
theorem sql_gr {K : PySem.W.Frag} {T : Tbs} {ad : Option Addr} {H H' : Hp} {a : Addr} {xs : List V} (e : GrX T ad H H') (h : SqL K H a xs) (n : ad ≠ some a) : SqL K H' a xs := by
  rcases h with (h | ⟨o, h⟩) | h
  · exact .inl (.inl (e.ext _ _ h lst_nt n))
  · exact .inl (.inr ⟨o, e.ext _ _ h (fun _ z => by cases z) n⟩)
  · exact .inr h
theorem start_sr {g : Cg} {F H : Hp} {ad : Option Addr} {dc : Dc} {vs : List V} {xs : List Val} {N : List Str} (i : ∀ b o, F b = some o → H b = some o) (nt : ∀ b ps, F b ≠ some (.tbl ps)) (tp : ∀ b xs, H b = some (.tup xs) → F b = some (.tup xs)) (tb : Tb g.T H) (r : VRs g ⟨F, H, ad⟩ F H vs xs) (a : xs.all Val.arg = true) (d : DiceC ad dc F H) :
    SR g ⟨F, H, ad⟩ (xs.map some ++ List.replicate (N.length - xs.length) none) dc F (L2.start N vs) H := by
  have lx := r.len
  have at_ : ∀ (j : Nat) x, (xs.map some ++ List.replicate (N.length - xs.length) (none : Option Val))[j]? = some (some x) → xs[j]? = some x := by
    intro j x h
    by_cases hj : j < xs.length
    · rw [List.getElem?_append_left (by simpa using hj), List.getElem?_map] at h
      cases e : xs[j]? with
      | none => rw [e] at h; cases h
      | some y => rw [e] at h; cases h; rfl
    · rw [List.getElem?_append_right (by simpa using Nat.le_of_not_lt hj), List.getElem?_replicate] at h
      split at h <;> cases h
  refine ⟨fun j x h => ?_, fun j k x y w _ e1 _ o1 _ _ => ?_, .refl tb i, fun b hb => ?_, ?_, nt, tp⟩
  · obtain ⟨v, h1, h2⟩ := r.at (at_ j x h)
    refine ⟨v, ?_, h2⟩
    unfold L2.start
    have hj : j < vs.length := (List.getElem?_eq_some_iff.mp h1).1
    rw [List.getElem?_append_left (by simpa using hj), List.getElem?_map, h1]
    rfl
  · exfalso
    have := List.all_eq_true.mp a x (List.mem_of_getElem? (at_ j x e1))
    cases x with
    | p _ => cases o1
    | ol _ => cases this
    | fd _ => cases o1
    | od _ => cases this
    | dice => cases o1
    | scr _ => cases o1
  · obtain ⟨h1, h2⟩ := d b hb
    exact ⟨h1, by show H b ≠ none; rw [h2]; simp, h2⟩
  · unfold L2.start
    simp only [List.length_append, List.length_map, List.length_replicate]
    omega
theorem fn_D {g : Cg} {P : Program} {w : World} {K : PySem.W.Frag} {mg : Str → Option Value} {base : Heap} {k : Nat} {f : Addr} {name qual : Str} {params : Arguments} {body : List Stmt} {scope : Scope} {dV kV doc pm cdv ct oc : Value} {an od : Option Addr}
    {osl : Array (Option Value)} {N ps : List Str} {sb : SS} (lk : K.lookup f = some ⟨oc, od, .func (PySem.W.fnOf name qual params body scope dV kV doc pm an cdv ct), osl⟩) (hcd : PySem.W.codeIn K cdv qual = true) (S : FnScope N ps scope)
    (hb : ∀ (A : Around) (outer : List Env) (s : Shared) (H : Hp) (E : XK) (t : Ct), Room k (A.deeper (envOfC qual scope s.heap.objs.size f cdv)) → DSs (cxOf (L2.CX P w) P w K mg base N qual scope f cdv A outer s H E) g t E body sb) :
    FnOk P w K mg base (L2.CX P w) (k + 1) f (PySem.W.fnOf name qual params body scope dV kV doc pm an cdv ct) ps (spD g ps.length (fnM N.length sb)) := by
  refine fn_of lk hcd S (fun vs H Q E h => ?_) fun A outer s H vs Q E hr h => ?_
  · obtain ⟨F, xs, ad, dc, h1, _, _, _, _, h2, _⟩ := h
    rw [h2.len, h1]
  · obtain ⟨F, xs, ad, dc, h1, i, nt, tp, tb, r, ha, d, hp⟩ := h
    obtain ⟨ts, p, e⟩ := hb A outer s H E ⟨F, H, ad⟩ hr
    refine ⟨ts, p, e _ dc F _ H _ (start_sr i nt tp tb r ha d) ?_⟩
    unfold fnM at hp
    cases q : sb (xs.map some ++ List.replicate (N.length - xs.length) none) dc with
    | ok a =>
      obtain ⟨fl, ρ', dc'⟩ := a
      rw [q] at hp
      cases fl with
      | nx => exact fun F' σ' H' _ s' => hp .non F' H' s'.gr (fun b hb => ⟨(s'.dice b hb).1, (s'.dice b hb).2.2⟩) R.non
      | bk => exact hp.elim
      | rt x => exact fun v F' H' gr d' rv => hp v F' H' gr (fun b hb => ⟨(d' b hb).1, (d' b hb).2.2⟩) rv
    | exn n => rw [q] at hp; exact hp
    | stuck => rw [q] at hp; exact hp.elim
/-- a def of the text that computes fm -/
def DefOk (g : Cg) (P : Program) (w : World) (K : PySem.W.Frag) (mg : Str → Option Value) (base : Heap) (k : Nat) (x : Str) (ps : List Str) (fm : FM) : Prop :=
  ∃ f fd, mg x = some (.ref f) ∧ PySem.W.keepIn K (.ref f) = true ∧ FnOk P w K mg base (L2.CX P w) k f fd ps (spD g ps.length fm) ∧
    ∀ us ws : List Value, us.length + ws.length = ps.length → bindArgs fd ⟨us, (ps.drop us.length).zip ws⟩ = pure (ps.zip (us ++ ws))
theorem DefOk.mono {g : Cg} {P : Program} {w : World} {K : PySem.W.Frag} {mg : Str → Option Value} {base : Heap} {j k : Nat} {x : Str} {ps : List Str} {fm : FM} (h : DefOk g P w K mg base j x ps fm) (l : j ≤ k) : DefOk g P w K mg base k x ps fm := by
  obtain ⟨f, fd, h1, h2, h3, h4⟩ := h
  exact ⟨f, fd, h1, h2, h3.mono l, h4⟩
def eApp (n : Nat) (fm : FM) (a : SM (List Val)) : SE := SM.bind a fun xs _ dc => if xs.length = n ∧ xs.all Val.arg = true then fm xs dc else .stuck
section
variable {X : Cx} {g : Cg} {t : Ct} {E : XK} {pos p : Pos} {e : Expr} {es : List Expr} {k j : Nat} {x : Str} {ps : List Str} {fm : FM} {fr fk : SM (List Val)}
theorem app_sp {ρ : Rho} {dc : Dc} {F H : Hp} {σ : L2.St} {Q : VK} {vs : List V} {xs : List Val} {n : Nat} (s : SR g t ρ dc F σ H) (r : VRs g t F H vs xs) (hp : PostG g t E (fun F H v x => VR g t F H v x) F H (if xs.length = n ∧ xs.all Val.arg = true then fm xs dc else .stuck) Q) : spD g n fm vs H Q E := by
  split at hp
  · rename_i h
    refine ⟨F, xs, t.ad, dc, h.1, s.inc, s.nt, s.tup, s.tab, VRs.argT (t := t) (t' := ⟨F, H, t.ad⟩) (by rfl) (fun a ns h1 h2 => sql_gr s.gr.toGrX h1 h2) r h.2, h.2, fun a ha => ⟨(s.dice a ha).1, (s.dice a ha).2.2⟩, ?_⟩
    cases q : fm xs dc with
    | ok a =>
      obtain ⟨y, dc'⟩ := a
      rw [q] at hp
      exact fun v F' H' gr d rv => hp v F' H' gr (fun a ha => ⟨(d a ha).1, (s.dice a ha).2.1, (d a ha).2⟩) (rv.mv (t' := t) (by rfl) s.gr.dom).vr
    | exn n =>
      rw [q] at hp
      exact fun dx H' e h1 h2 => hp dx H' (s.gr.toGrX.trans e) (s.gr.dom dx h1) h2
    | stuck => rw [q] at hp; exact hp.elim
  · exact hp.elim
theorem de_call (F : DefOk g X.prog X.w X.K X.mg X.base j x ps fm) (hr : Room k X.A) (hx : Passes (L2.CX X.prog X.w) X E) (ha : DA X g t E (e :: es) fr) (hjk : j ≤ k := by decide) (hg : Gl X x := by rfl)
    (hdb : (x == ("__debug__" : Str)) = false := by decide) (he : starEach (e :: es) X.env = (false, eval e X.env) :: starEach es X.env := by rfl) (hpl : (backTo pos (starEach es X.env)).any (·.1) = false := by rfl) :
    DE X g t E (.Call (.Name x p) (e :: es) [] pos) (eApp ps.length fm fr) := by
  obtain ⟨f, fd, h1, h2, h3, h4⟩ := F
  obtain ⟨ta, pa, ea⟩ := ha
  have hb : L2.Binds X.K fd ps [] := Binds.all fun us hl => by
    have := h4 us [] (by simpa using hl)
    rw [List.zip_nil_right, List.append_nil] at this
    exact this
  refine ⟨_, pe_call (h3.mono hjk) hr hg h1 h2 hb .nil hx pa hdb he hpl, fun ρ dc F σ H Q s hp => ?_⟩
  refine ea.bind s hp fun vs xs dc1 F1 H1 g1 s1 r1 hp1 => ?_
  rw [List.append_nil]
  exact app_sp s1 r1 hp1
/-! ### keywords: the last parameters -/
def DK (X : Cx) (g : Cg) (t : Ct) (E : XK) (kws : List Keyword) (f : SM (List Val)) : Prop := ∃ te, PK X kws te ∧ EvG g t E (fun F H v x => VRs g t F H v x) te f
theorem dk_nil : DK X g t E [] aNil := ⟨_, pk_nil, fun ρ dc F σ H Q s hp => PostG.fin s hp s.id .nil⟩
theorem dk_cons {kws : List Keyword} {nm : Option Str} {kpos : Pos} {fa : SE} (ha : DE X g t E e fa) (hr : DK X g t E kws fr) : DK X g t E (⟨nm, e, kpos⟩ :: kws) (aCons fa fr) := by
  obtain ⟨ta, pa, ea⟩ := ha
  obtain ⟨tr, pr, er⟩ := hr
  refine ⟨_, pk_cons pa pr, fun ρ dc F σ H Q s hp => ?_⟩
  refine ea.bind s hp fun x xa dc1 F1 H1 g1 s1 r1 hp1 => ?_
  refine er.bind s1 hp1 fun y yb dc2 F2 H2 g2 s2 r2 hp2 => ?_
  exact PostG.fin s2 hp2 s2.id (.cons (r1.gr g2) r2)
def eAppK (n : Nat) (i : Nat) (fm : FM) (a b : SM (List Val)) : SE := SM.bind a fun xs => SM.bind b fun zs _ dc => if xs.length = i then (if (xs ++ zs).length = n ∧ (xs ++ zs).all Val.arg = true then fm (xs ++ zs) dc else .stuck) else .stuck
theorem VRs.app {F H : Hp} : ∀ {vs ws : List V} {xs zs : List Val}, VRs g t F H vs xs → VRs g t F H ws zs → VRs g t F H (vs ++ ws) (xs ++ zs)
  | _, _, _, _, .nil, h => h
  | _, _, _, _, .cons a r, h => .cons a (VRs.app r h)
theorem run_kw {pins : List (Addr × Obj)} {σ : L2.St} {H : Hp} {s : Shared} {Q : VK} {us ws : List Value} {vs zs : List V} {sp : Sp} {f : Addr} {fd : FuncData} (F : FnOk X.prog X.w X.K X.mg X.base (L2.CX X.prog X.w) k f fd ps sp) (hr : Room k X.A)
    (hb : bindArgs fd ⟨us, (ps.drop us.length).zip ws⟩ = pure (ps.zip (us ++ ws))) (hx : Passes (L2.CX X.prog X.w) X E)
    (I : Inv X pins σ H s) (r : Vals vs us) (rz : Vals zs ws) (h : sp (vs ++ zs) H Q E) : wpAny (model X.prog X.w) X.A (call (.ref f) us ((ps.drop us.length).zip ws)) (EP X pins σ Q) X.xe s := by
  refine wpAny_call (codeAny_mono (F.run X.A X.stack s H ⟨us, (ps.drop us.length).zip ws⟩ (us ++ ws) (vs ++ zs) Q E hr I.env0 (.of_eq hb) (r.append rz) h) fun r s' hq => ?_)
  cases r with
  | error e => exact hx pins σ H s e s' I hq
  | ok fl =>
    cases fl with
    | ret u => exact I.after hq
    | next => exact False.elim hq
    | brk => exact False.elim hq
    | cont => exact False.elim hq
def tKw (sp : Sp) (i n : Nat) (E : XK) (t tk : TA) : TE := fun σ H Q => t σ H fun vs H1 => tk σ H1 fun zs H2 => vs.length = i ∧ (vs ++ zs).length = n ∧ sp (vs ++ zs) H2 Q E
theorem kw_ev {ta tk : TA} {i n : Nat} (ea : EvG g t E (fun F H v x => VRs g t F H v x) ta fr) (ek : EvG g t E (fun F H v x => VRs g t F H v x) tk fk) : EvG g t E (fun F H v x => VR g t F H v x) (tKw (spD g n fm) i n E ta tk) (eAppK n i fm fr fk) := by
  intro ρ dc F σ H Q s hp
  refine ea.bind s hp fun vs xs dc1 F1 H1 g1 s1 r1 hp1 => ?_
  refine ek.bind s1 hp1 fun ws zs dc2 F2 H2 g2 s2 r2 hp2 => ?_
  split at hp2
  · rename_i hi
    have r := (r1.gr g2).app r2
    have q := app_sp s2 r hp2
    refine ⟨by rw [r1.len]; exact hi, ?_, q⟩
    split at hp2
    · rename_i h; rw [r.len]; exact h.1
    · exact hp2.elim
  · exact hp2.elim
theorem de_callK (i : Nat) (F : DefOk g X.prog X.w X.K X.mg X.base j x ps fm) (hr : Room k X.A) (hx : Passes (L2.CX X.prog X.w) X E) {kws : List Keyword} (ha : DA X g t E (e :: es) fr) (hkw : DK X g t E kws fk) (hjk : j ≤ k := by decide) (hg : Gl X x := by rfl)
    (hall : (backToKw pos (keywordEach kws X.env)).all (·.1.isSome) = true := by rfl) (hks : (backToKw pos (keywordEach kws X.env)).filterMap (·.1) = ps.drop i := by rfl)
    (hdb : (x == ("__debug__" : Str)) = false := by decide) (he : starEach (e :: es) X.env = (false, eval e X.env) :: starEach es X.env := by rfl)
    (hpl : ((backTo pos (starEach (e :: es) X.env)).any (·.1) || (backToKw pos (keywordEach kws X.env)).any (·.1.isNone)) = false := by rfl) :
    DE X g t E (.Call (.Name x p) (e :: es) kws pos) (eAppK ps.length i fm fr fk) := by
  obtain ⟨f, fd, h1, h2, h3, h4⟩ := F
  obtain ⟨ta, pa, ea⟩ := ha
  obtain ⟨tk, pk, ek⟩ := hkw
  refine ⟨tKw (spD g ps.length fm) i ps.length E ta tk, ⟨fun pins s σ H Q I h => ?_⟩, kw_ev ea ek⟩
  refine wpAny_Call_Name_kw (ld_glob I hg h1 ?_ hdb)
  refine PySem.W.callWith_KW (h₀ := X.base) I.ok.mod.kin h2 hall (thn (pa.run pos pins s σ H _ I h) fun us s1 ⟨vs, H1, I1, r, q⟩ => ?_) hpl he
  refine thn (pk.run pos pins s1 σ H1 _ I1 q) fun ws s2 ⟨zs, H2, I2, rz, e1, e2, q2⟩ => ⟨I2.kIn, ?_⟩
  have l1 : us.length = i := by rw [← r.length]; exact e1
  have l2 : us.length + ws.length = ps.length := by rw [← r.length, ← rz.length, ← List.length_append]; exact e2
  rw [hks, ← l1]
  exact run_kw (h3.mono hjk) hr (h4 us ws l2) hx I2 r rz q2
theorem de_callK0 (F : DefOk g X.prog X.w X.K X.mg X.base j x ps fm) (hr : Room k X.A) (hx : Passes (L2.CX X.prog X.w) X E) {kws : List Keyword} (hkw : DK X g t E kws fk) (hjk : j ≤ k := by decide) (hg : Gl X x := by rfl)
    (hall : (backToKw pos (keywordEach kws X.env)).all (·.1.isSome) = true := by rfl) (hks : (backToKw pos (keywordEach kws X.env)).filterMap (·.1) = ps := by rfl)
    (hdb : (x == ("__debug__" : Str)) = false := by decide)
    (hpl : ((backTo pos (starEach [] X.env)).any (·.1) || (backToKw pos (keywordEach kws X.env)).any (·.1.isNone)) = false := by rfl) :
    DE X g t E (.Call (.Name x p) [] kws pos) (eAppK ps.length 0 fm aNil fk) := by
  obtain ⟨f, fd, h1, h2, h3, h4⟩ := F
  obtain ⟨tk, pk, ek⟩ := hkw
  refine ⟨tKw (spD g ps.length fm) 0 ps.length E tNil tk, ⟨fun pins s σ H Q I h => ?_⟩, kw_ev (fun ρ dc F σ H Q s hp => PostG.fin s hp s.id .nil) ek⟩
  refine wpAny_Call_Name_kw (ld_glob I hg h1 ?_ hdb)
  refine PySem.W.callWith_KW0 (h₀ := X.base) I.ok.mod.kin h2 hall ?_ hpl
  have h' : tk σ H fun zs H2 => ([] : List V).length = 0 ∧ ([] ++ zs).length = ps.length ∧ spD g ps.length fm ([] ++ zs) H2 Q E := h
  refine thn (pk.run pos pins s σ H _ I h') fun ws s2 ⟨zs, H2, I2, rz, e1, e2, q2⟩ => ⟨I2.kIn, ?_⟩
  have l2 : ([] : List Value).length + ws.length = ps.length := by rw [← rz.length, ← e2]; simp
  rw [hks]
  exact run_kw (us := []) (h3.mono hjk) hr (h4 [] ws l2) hx I2 .nil rz q2
end
end DL

set_option maxHeartbeats 4000000
namespace PySem
namespace BadX
open PySem.W PySem.Calls PyProof.Rows PySem.HandSPX
/-! ### the text of the exception's __init__ -/
def iA : Arguments := { posonlyargs := [], args := [{ arg := "self", annotation := none, pos := ⟨4, 17, 4, 21⟩ }, { arg := "name", annotation := none, pos := ⟨4, 23, 4, 27⟩ }], vararg := none, kwonlyargs := [], kw_defaults := [], kwarg := none, defaults := [] }
def eMsg : Expr := .BinOp (.Constant (.str "bad argument: ") 0 ⟨5, 25, 5, 41⟩) .Add (.Name "name" ⟨5, 44, 5, 48⟩) ⟨5, 25, 5, 48⟩
def iB : List Stmt := [.Expr (.Call (.Attribute (.Call (.Name "super" ⟨5, 8, 5, 13⟩) [] [] ⟨5, 8, 5, 15⟩) "__init__" ⟨5, 8, 5, 24⟩) [eMsg] [] ⟨5, 8, 5, 49⟩) ⟨5, 8, 5, 49⟩,
  .Assign [.Attribute (.Name "self" ⟨6, 8, 6, 12⟩) "name" ⟨6, 8, 6, 17⟩] (.Name "name" ⟨6, 20, 6, 24⟩) ⟨6, 8, 6, 24⟩]
def iS : Scope := { kind := .function, names := [(PySem.Str.ofString "self", .local), (PySem.Str.ofString "name", .local), (PySem.Str.ofString "__class__", .free), (PySem.Str.ofString "super", .globalImplicit)], isGenerator := false, isCoroutine := false, more := [] }
abbrev bmVE : List Value := [.type "ValueError", .type "Exception", .type "BaseException", .type "object"]
structure BadTxt (prog : Program) (K : Frag) (mg : Str → Option Value) (C fI : Addr) : Prop where
  gC : mg "BadArgument" = some (.ref C)
  sup : mg "super" = none
  cls : ∃ nm q N bs sn sub ab col dd k0 k1 k2 k3 k5, K.lookup C = some (excClassObj nm q C N bs bmVE true sn sub ab col dd k0 k1 k2 k3 k5 "ValueError.__new__")
  opq : nsIn K cStatics "thirdparty.any" = some none
  sa : findIn K (.ref C) "__setattr__" = some (some (.builtin "object.__setattr__"))
  ga : findIn K (.ref C) "__getattribute__" = some (some (.builtin "BaseException.__getattribute__"))
  gg : findIn K (.ref C) "__getattr__" = some none
  noN : findIn K (.ref C) "name" = some none
  iC : findIn K (.ref C) "__init__" = some (some (.ref fI))
  tC : typeIn K (.ref fI) = some (.type "function")
  kC : keepIn K (.ref C) = true
  exC : subIn K (.ref C) (.type "BaseException") = some true
  veC : subIn K (.ref C) (.type "ValueError") = some true
  tyC : typeIn K (.ref C) = some (.type "type")
  hdC : hasDictIn K C = true
  meC : mroIn K C (.ref C) = some true
  te : exmOne K (.ref C) (.ref C) = some true
  top : (prog.main.scope.names.lookup ("super" : Str)).isSome = false
  fn : ∃ (oc : Value) (od : Option Addr) (doc pm : Value) (an : Option Addr) (cda : Addr) (ct : Value) (cc : Addr) (osl : Array (Option Value)) (cl ccl : Value) (cld cdd : Option Addr) (csl ccs : Array (Option Value)) (vs : Array Value) (file : Str) (tf : Tok),
    K.lookup fI = some ⟨oc, od, .func (ksFn "__init__" "BadArgument.__init__" iA iB iS .none .none doc pm an (.ref cda) ct cc), osl⟩ ∧ codeIn K (.ref cda) "BadArgument.__init__" = true ∧
    K.lookup cc = some ⟨cl, cld, .cell (some (.ref C)), csl⟩ ∧ K.lookup cda = some ⟨ccl, cdd, .fields vs, ccs⟩ ∧ vs[2]? = some (.str file tf) ∧ ((prog.main.file : Str) == file) = true
theorem one_size (v : Value) : [v].length ≤ sizeLine := by
  rw [sizeLine_eq]
  exact (by decide : 1 ≤ 16777216)
section
variable {prog : Program} {w : World} {A : Around} {E : Value → Shared → Prop} {h : Heap} {g : Array GenState} {d : Drawn} {t : Nat} {os : OsState}
variable {nm q : Str} {C N : Addr} {bs bm : List Value} {hdct : Bool} {sn : List Str} {sub : List Value} {ab : Bool} {col : Option Bool} {dd : Option Addr} {k0 k1 k2 k3 k5 : Option Value}
theorem call_bwV {u e t0 : Addr} {rest : List Value} {Q : Value → Shared → Prop}
    (hC : h.get? C = some (excClassObj nm q C N bs bm hdct sn sub ab col dd k0 k1 k2 k3 k5 "ValueError.__new__")) (he : h.get? e = some (HandSPX.excO C t0)) (hu : h.get? u = some (kxs_mw "ValueError.__init__" e)) (hrest : rest.length ≤ sizeLine)
    (hq : ∀ h' t1, (∀ b o, b ≠ e → h.get? b = some o → h'.get? b = some o) → h'.get? e = some (HandSPX.excO C t1) → Q .none ⟨h', g, d, t, os⟩) :
    wpAny (model prog w) A (call (.ref u) rest) Q E ⟨h, g, d, t, os⟩ := by
  refine wpAny_call (codeAny_of_tree ?_)
  show wpAny _ A.in1 (callAny (.ref u) ⟨rest, []⟩) _ _ _
  simp only [callAny]
  refine wpAny_bind (wpAny_load hu ?_)
  simp only [kxs_mw, show (Value.type "method-wrapper" == Value.type "method" || Value.type "method-wrapper" == Value.type "builtin_function_or_method" || Value.type "method-wrapper" == Value.type "method-wrapper") = true by decide, if_true]
  refine W.KFB.if_so (by decide) ?_
  refine wpAny_bind (ESX.check_bound F.excBase_ValueError hC he rfl ?_)
  refine wpAny_bind (wpAny_pure (wpAny_pure ?_))
  refine ⟨Code.quiet_builtin _ (by decide +kernel), codeAny_builtin F.excBase_ValueError.initEntry ?_⟩
  rw [Around.under_plainId F.excBase_ValueError.init.plain _]
  wp_walk
  refine hq _ h.objs.size (fun b o hb ho => ?_) ?_
  · rw [Heap.get?_update_other _ _ (Ne.symm hb)]
    exact Heap.get?_push_of_some _ ho
  · rw [Heap.get?_update_self _ (Heap.get?_push_of_some _ he) rfl]
    rfl
end
/-- what __init__ leaves of a fresh exception at x -/
structure InitEnd (h h' : Heap) (x C dx t1 : Addr) (v : Value) : Prop where
  keep : ∀ b o, b ≠ x → h.get? b = some o → h'.get? b = some o
  obj : h'.get? x = some { cls := .ref C, dict := some dx, data := .fields #[.ref t1, .none, .none, .none, .bool false, .none] }
  dbig : h.objs.size ≤ dx
  dne : dx ≠ x
  ns : h'.Ns1 dx (fun y => if y = "name" then some v else none)
structure OwnMade (h h' : Heap) (e C d : Addr) (v : Value) : Prop where
  keep : ∀ b o, h.get? b = some o → h'.get? b = some o
  new : h.objs.size ≤ e
  obj : ∃ oe vs, h'.get? e = some oe ∧ oe.cls = .ref C ∧ oe.dict = some d ∧ oe.data = .fields vs ∧ vs[1]? = some .none
  dbig : h.objs.size ≤ d
  dne : d ≠ e
  ns : h'.Ns1 d (fun y => if y = "name" then some v else none)
section
variable {prog : Program} {w : World} {A : Around} {E : Value → Shared → Prop} {R : Result → Shared → Prop} {s : Shared} {K : Frag} {mg : Str → Option Value} {C fI : Addr}
theorem bad_init (T : BadTxt prog K mg C fI) {x t0 : Addr} {nm : Str} {tn : Tok} (X : K.In s.heap) (hlim : s.heap.NoLimit) (hG : s.heap.Ns mainGlobals mg) {mb : Str → Option Value} (hB : s.heap.Ns builtinsNs mb) (hb : ∀ x : Str, x ≠ "__name__" → mb x = bootBuiltins x)
    (hx : s.heap.get? x = some (excO C t0)) (hnx : K.lookup x = none) (hroom : A.depth < recursionLimit) (hlen : nm.length ≤ 1000)
    (hq : ∀ h' tk dx t1, InitEnd s.heap h' x C dx t1 (.str nm tn) → R (.ok (.ret .none)) { s with heap := h', toks := tk }) :
    codeAny (model prog w) A (.call (.ref fI) ⟨[.ref x, .str nm tn], []⟩) R s := by
  obtain ⟨oc, od, doc, pm, an, cda, ct, cc, osl, cl, ccl, cld, cdd, csl, ccs, vs, file, tf, ho, hcd, hcell, hcode, hvs, hfile⟩ := T.fn
  obtain ⟨nm', q, N, bs, sn, sub, ab, col, dd, k0, k1, k2, k3, k5, hC⟩ := T.cls
  have hcl : clsIn K C = some { name := nm', bases := bs, mro := .ref C :: bmVE, ns := N, qualname := q, hasDict := true, slotNames := sn, subclasses := sub, abstract := ab, collection := col, hasDel := false } := by unfold clsIn; rw [hC] <;> rfl
  obtain ⟨hp, gn, dr, tk0, os⟩ := s
  refine ks_codeAny_call_defAt (fd := ksFn "__init__" "BadArgument.__init__" iA iB iS .none .none doc pm an (.ref cda) ct cc) (body := iB) (binds := [("self", .ref x), ("name", .str nm tn)]) hroom (X _ _ ho) rfl hlim (codeRec_of X hcd) rfl
    (BindsTo.of_eq (by first | rfl | with_unfolding_all rfl)) (fun y hy => (show ∀ y ∈ iS.names, y.2 ≠ .cell from by decide) y hy) (fun y hy => ?_) (fun h₁ hns k₁ => ?_) rfl rfl rfl
  · rcases List.mem_cons.mp hy with rfl | hy
    · rfl
    · rcases List.mem_cons.mp hy with rfl | hy
      · rfl
      · cases hy
  have X₁ : K.In h₁ := X.keeps k₁
  have hx₁ := k₁ _ _ hx
  have I₁ : InstAt h₁ x (excO C t0) C none := ⟨hx₁, rfl, rfl, trivial⟩
  have xC : x ≠ C := ks_ne X₁ I₁ hcl
  have z1 : hp.objs.size < h₁.objs.size := hns.lt
  refine ks_wpAt_execs_cons (ks_wpAt_Expr_any (ks_wpAt_MethodCall ?_))
  refine ks_wpAt_super_base (fd := ksFn "__init__" "BadArgument.__init__" iA iB iS .none .none doc pm an (.ref cda) ct cc) rfl rfl (by decide) rfl (X₁ _ _ ho) rfl (show _ = some { arg := "self", annotation := none, pos := ⟨4, 17, 4, 21⟩ } from rfl) rfl (X₁ _ _ hcode) rfl hvs hfile T.top ?_
  refine ks_loadName_global rfl rfl (loadGlobal_builtin (hG.keeps k₁) T.sup (hB.keeps k₁) ((hb _ (by decide)).trans (by rfl)) ⟨rfl, ?_⟩)
  refine wpAny_loadName_free rfl rfl rfl ⟨_, X₁ _ _ hcell, rfl⟩ ?_
  refine wpAny_loadName_local rfl rfl hns (show _ = some (Value.ref x) from by first | rfl | with_unfolding_all rfl | kernel_rfl) ?_
  refine ks_wpAny_isType_cls (X₁ _ _ hC) rfl ⟨rfl, ?_⟩
  refine ks_wpAny_call_super (X₁ _ _ hC) rfl hx₁ rfl (fun c e => by cases e) (looks_mroIn X₁ T.meC) (fun h₂ e₂ k₂ => ?_)
  have X₂ : K.In h₂ := X₁.keeps k₂
  have hx₂ := k₂ _ _ hx₁
  have I₂ : InstAt h₂ x (excO C t0) C none := ⟨hx₂, rfl, rfl, trivial⟩
  refine kxs_getMethod kxs_ValueError e₂ (looks_opaque X₂ T.opq) (l₀ := .ref C :: bmVE) ?_ (l := bmVE) (by simp [List.dropWhile_cons]) X₂ (show alongIn K "__init__" bmVE = some (some (.builtin "ValueError.__init__")) from by kernel_rfl) (I₂.type.andThen (looks_subIn X₂ T.veC)) xC (by decide) ?_
  · exact fun A Q E s k q => wpAny_bind ((looks_clsIn X₂ hcl) A _ E s k (wpAny_pure q))
  have hz2 : h₂.get? h₂.objs.size = none := by
    cases e : h₂.get? h₂.objs.size with
    | none => rfl
    | some o => exact absurd (Heap.lt_size e) (Nat.lt_irrefl _)
  have k₃ : ∀ b o, h₂.get? b = some o → (h₂.push (kxs_mw "ValueError.__init__" x)).get? b = some o := fun b o e => Heap.get?_push_of_some _ e
  have e₃ : (h₂.push (kxs_mw "ValueError.__init__" x)).get? h₂.objs.size = some (kxs_mw "ValueError.__init__" x) := Heap.get?_push_size _ rfl
  have lt2 : h₁.objs.size < h₂.objs.size := Heap.lt_size e₂
  generalize h₂.push (kxs_mw "ValueError.__init__" x) = h₃ at k₃ e₃ ⊢
  have lt3 : h₂.objs.size < h₃.objs.size := Heap.lt_size e₃
  have k13 : ∀ b o, h₁.get? b = some o → h₃.get? b = some o := fun b o e => k₃ b o (k₂ b o e)
  have X₃ : K.In h₃ := X₂.keeps k₃
  refine kxs_callWith (i := "ValueError.__init__") (x := x) (by rfl) (evalArgs_plain ?_)
  show wpAny _ _ (spliced ((false, eval eMsg (ksEnv "BadArgument.__init__" iS hp.objs.size fI (.ref cda) cc)) :: backTo _ (starEach [] _))) _ _ _
  refine spliced_cons ?_
  refine wpAny_BinOp ?_
  refine Constant_str ?_
  refine wpAny_Name (wpAny_loadName_local rfl rfl (hns.keeps k13) (show _ = some (Value.str nm tn) from by first | rfl | with_unfolding_all rfl | kernel_rfl) ?_) (by decide)
  refine PyProof.Rows.add_str (fun ts tk => ?_) (by rw [sizeLine_eq]; show 14 + nm.length ≤ _; omega)
  refine spliced_nil ⟨e₃, ?_⟩
  refine call_bwV (X₃ _ _ hC) (k₃ _ _ hx₂) e₃ (one_size _) (fun h₄ t4 k₄ hx₄ => ?_)
  have k4 : ∀ b o, b ≠ x → h₁.get? b = some o → h₄.get? b = some o := fun b o hb e => k₄ b o hb (k13 b o e)
  have X₄ : K.In h₄ := fun a o e => k₄ a o (fun z => by rw [z, hnx] at e; cases e) (X₃ _ _ e)
  have hxL : hp.objs.size ≠ x := Nat.ne_of_gt (Heap.lt_size hx)
  have hns4 : h₄.Ns hp.objs.size _ := hns.at (fun o e => k4 _ o hxL e)
  -- self.name = name
  refine wpAt_of_wpAny (wpAny_execs_cons (plainObj_wpAny_Assign_Attribute ?_))
  refine wpAny_Name (wpAny_loadName_local rfl rfl hns4 (show _ = some (Value.str nm tn) from by first | rfl | with_unfolding_all rfl | kernel_rfl) ?_) (by decide)
  refine wpAny_Name (wpAny_loadName_local rfl rfl hns4 (show _ = some (Value.ref x) from by first | rfl | with_unfolding_all rfl | kernel_rfl) ?_) (by decide)
  refine set_plain X₄ (ox := excO C t4) (od := none) ⟨hx₄, rfl, rfl, trivial⟩ T.sa ?_
  refine exc_osa X₄ hx₄ hcl (show refsVE bmVE = true from by decide +kernel) rfl T.noN (fun h₅ tk₅ dx k₅ dn dne hx₅ hn₅ => ?_)
  show wpAny _ _ (execs _ _) _ _ _
  have lt4 : h₁.objs.size ≤ h₄.objs.size := by
    have ne : h₂.objs.size ≠ x := fun z => by
      have q1 : x < h₁.objs.size := Heap.lt_size hx₁
      rw [z] at lt2
      exact Nat.lt_irrefl _ (Nat.lt_trans q1 lt2)
    have q2 : h₂.objs.size < h₄.objs.size := Heap.lt_size (k₄ _ _ ne e₃)
    exact Nat.le_of_lt (Nat.lt_trans lt2 q2)
  exact wpAny_execs_nil (hq h₅ tk₅ dx t4 ⟨fun b o hb e => k₅ b o hb (k4 b o hb (k₁ b o e)), hx₅, Nat.le_trans (Nat.le_of_lt (Nat.lt_of_lt_of_le z1 lt4)) dn, dne, hn₅⟩)
theorem bad_made (T : BadTxt prog K mg C fI) {nm : Str} {tn : Tok} (X : K.In s.heap) (hlim : s.heap.NoLimit) (hG : s.heap.Ns mainGlobals mg) {mb : Str → Option Value} (hB : s.heap.Ns builtinsNs mb) (hb : ∀ x : Str, x ≠ "__name__" → mb x = bootBuiltins x) (hroom : A.depth + 1 < recursionLimit) (hlen : nm.length ≤ 1000)
    (hq : ∀ h' tk e d, OwnMade s.heap h' e C d (.str nm tn) → R (.ok (.ret (.ref e))) { s with heap := h', toks := tk }) :
    codeAny (model prog w) A (.call (.ref C) ⟨[.str nm tn], []⟩) R s := by
  obtain ⟨nm', q, N, bs, sn, sub, ab, col, dd, k0, k1, k2, k3, k5, hC⟩ := T.cls
  obtain ⟨hp, g, dr, tk, os⟩ := s
  have k : ∀ b o, hp.get? b = some o → ((hp.push (kdv_tup [.str nm tn])).push (excO C hp.objs.size)).get? b = some o := fun b o e => Heap.get?_push_of_some _ (Heap.get?_push_of_some _ e)
  have hget : ((hp.push (kdv_tup [.str nm tn])).push (excO C hp.objs.size)).get? (hp.objs.size + 1) = some (excO C hp.objs.size) := by heap_get
  have hnx : K.lookup (hp.objs.size + 1) = none := by
    cases e : K.lookup (hp.objs.size + 1) with
    | none => rfl
    | some o =>
      have z : hp.get? (hp.objs.size + 1) = some o := X _ _ e
      exact absurd (Nat.lt_of_succ_lt (Heap.lt_size z)) (Nat.lt_irrefl _)
  refine call_own F.excBase_ValueError (fun X => refsVE_contains X bmVE (by decide +kernel)) (X _ _ hC) (looks_findIn X T.iC) (fun self => bind_fn X self T.tC) (one_size _) ?_
  refine bad_init (s := ⟨(hp.push (kdv_tup [.str nm tn])).push (excO C hp.objs.size), g, dr, tk, os⟩) T (X.keeps k) (hlim.keeps k) (hG.keeps k) (hB.keeps k) hb hget hnx ?_ hlen fun h' tk' dx t1 ⟨k', hx, dn, dne, hns⟩ => ?_
  · show A.depth + 1 < recursionLimit
    exact hroom
  · have old : ∀ b o, hp.get? b = some o → h'.get? b = some o := fun b o e => k' b o (Nat.ne_of_lt (Nat.lt_succ_of_lt (Heap.lt_size e))) (k b o e)
    have z : hp.objs.size + 1 + 1 ≤ dx := by
      first
        | (simpa only [Heap.size_push] using dn)
        | exact dn
        | (have q := dn; rw [Heap.size_push, Heap.size_push] at q; exact q)
    exact ⟨rfl, hq h' tk' (hp.objs.size + 1) dx ⟨old, Nat.le_succ _, ⟨_, _, hx, rfl, rfl, rfl, rfl⟩, Nat.le_trans (Nat.le_trans (Nat.le_succ _) (Nat.le_succ _)) z, dne, hns⟩⟩
end
end BadX
end PySem
namespace DL
open PySem PySem.Spec PyProof.Rows L2
theorem relO_bad {v : V} {v' : Value} (r : RelV v v') (f : Str) : RelO (List.lookup f [(("name" : Str), v)]) (if f = "name" then some v' else none) := by
  by_cases hw : f = "name"
  · subst hw
    rw [if_pos rfl]
    have q : List.lookup ("name" : Str) [(("name" : Str), v)] = some v := by simp [List.lookup]
    rw [q]
    exact r
  · rw [if_neg hw]
    have qw : (f == ("name" : Str)) = false := by simpa using hw
    have q2 : List.lookup f [(("name" : Str), v)] = none := by simp [List.lookup, qw]
    rw [q2]
    trivial
section
variable {X : Cx} {g : Cg} {t : Ct} {E : XK} {pos : Pos} {C fI : Addr}
def tMkBad (C : Addr) (ta : TA) : L2.St → Hp → XK → Prop := fun σ H Q => ta σ H fun vs H1 => ∃ n : Str, vs = [.str n] ∧ n.length ≤ 1000 ∧ ∀ d, H1 d = none → Q (.ref C) (some d) (upd H1 d (.xd [(("name" : Str), .str n)]))
theorem pmk_bad {a : Expr} {ta : TA} {p pos : Pos} {k : Nat} (T : PySem.BadX.BadTxt X.prog X.K X.mg C fI) (hr : Room k X.A) (ha : PA X [a] ta) (hg : Gl X "BadArgument" := by rfl)
    (he : starEach (a :: []) X.env = (false, eval a X.env) :: starEach [] X.env := by rfl) (hpl : (backTo pos (starEach [] X.env)).any (·.1) = false := by rfl) :
    PMk X (.Call (.Name "BadArgument" p) [a] [] pos) (tMkBad C ta) := by
  intro pins s σ H Q I h
  refine wpAny_Call_Name_kw (ld_glob I hg T.gC ?_)
  refine PySem.W.callWith_K (h₀ := X.base) I.ok.mod.kin T.kC (thn (ha.run pos pins s σ H _ I h) fun us s1 hh => ?_) he hpl
  obtain ⟨vs, H1, I1, r1, n, ev, hn, q1⟩ := hh
  subst ev
  refine ⟨I1.kIn, ?_⟩
  cases r1 with
  | cons rv rn =>
    cases rn
    obtain ⟨tn, rfl⟩ := rv
    show wpAny _ _ (call (.ref C) [.str n tn]) _ _ _
    have hlim := I1.nolimit
    obtain ⟨mb, b1, b2⟩ := I1.mod.blt
    have hG := I1.mod.glob.keeps I1.bk
    have hB := b1.keeps I1.bk
    obtain ⟨hp, gn, dr, tk, os⟩ := s1
    refine wpAny_call (PySem.BadX.bad_made T I1.kIn hlim hG hB b2 (by have := hr.dp; omega) hn fun h' tk' e d M => ?_)
    show MkP X pins σ Q (.ref e) ⟨h', gn, dr, tk', os⟩
    obtain ⟨oe, fv, hoe, hc, hd, hdat, h1⟩ := M.obj
    have hns := M.ns
    obtain ⟨G', g1, g2⟩ := restrict h' fun b => decide (b ≠ e)
    have gk : ∀ b, b ≠ e → G'.get? b = h'.get? b := fun b hb => g1 b (decide_eq_true hb)
    have ge : G'.get? e = none := g2 e (by simp)
    have old : ∀ b o, hp.get? b = some o → G'.get? b = some o := fun b o q => (gk b (Nat.ne_of_lt (Nat.lt_of_lt_of_le (Heap.lt_size q) M.new))).trans (M.keep b o q)
    have ob : ObjOk X.prog X.w (upd H1 d (.xd [(("name" : Str), .str n)])) G' d (.xd [(("name" : Str), .str n)]) :=
      ⟨_, hns.at (fun o q => (gk d M.dne).trans q), fun f => relO_bad (v := .str n) (v' := .str n tn) ⟨tn, rfl⟩ f⟩
    have J : Inv X pins σ (upd H1 d (.xd [(("name" : Str), .str n)])) ⟨G', gn, dr, tk', os⟩ := I1.laid (t' := tk') old M.dbig ob
    refine ⟨e, oe, fv, ⟨G', gn, dr, tk', os⟩, _, .ref C, some d, rfl, J, fun b o q => ?_, ge, hoe, ⟨hc, hd⟩, hdat, h1, ?_, rfl, I1.bare, raises_own T.exC T.tyC, q1 d (I1.hok.fresh M.dbig)⟩
    · by_cases hb : b = e
      · have q' : G'.get? b = some o := q
        rw [hb, ge] at q'; cases q'
      · exact (gk b hb).symm.trans q
    · rw [upd_ne (Ne.symm M.dne)]
      exact I1.hok.fresh M.new
/-- raise BadArgument(name) -/
def sBad (f : SM (List Val)) : SS := SM.thn f fun xs ρ dc => match xs with
  | [.p (.str n)] => if n.length ≤ 1000 then .exn n else .stuck
  | _ => .stuck
theorem ds_bad {a : Expr} {fa : SM (List Val)} {W : WX} {p pos2 : Pos} {k : Nat} (T : PySem.BadX.BadTxt X.prog X.K X.mg g.C fI) (hr : Room k X.A) (ha : DA X g t E [a] fa) (tk : Takes X W) (hW : ∀ cls d σ H, E cls d H → W cls d σ H) (hc : X.calm = true := by rfl) (hg : Gl X "BadArgument" := by rfl)
    (he : starEach (a :: []) X.env = (false, eval a X.env) :: starEach [] X.env := by rfl) (hpl : (backTo pos (starEach [] X.env)).any (·.1) = false := by rfl) :
    DS X g t E (.Raise (some (.Call (.Name "BadArgument" p) [a] [] pos)) none pos2) (sBad fa) := by
  obtain ⟨ta, pa, ea⟩ := ha
  refine ⟨_, ps_raise hc tk (pmk_bad T hr pa hg he hpl), fun ρ dc F σ H D s hp => ?_⟩
  refine ea.thn s hp fun vs xs dc1 F1 H1 g1 s1 r1 hp1 => ?_
  split at hp1
  · rename_i n
    split at hp1
    · rename_i hn
      cases r1 with
      | cons r1 r2 =>
        cases r2
        obtain rfl := vr_str r1
        refine ⟨n, rfl, hn, fun d hd => hW _ _ _ _ (hp1 d _ (s1.gr.toGrX.trans (Gr.laid s1.tab s1.inc hd).toGrX.weak) (s1.gr.dom d hd) upd_same)⟩
    · exact hp1.elim
  · exact hp1.elim
end
end DL

set_option maxHeartbeats 4000000
namespace DL
open PySem PySem.Spec PyProof.Rows L2 GenW
/-! ### all(elt for x in iter): the elements may call -/
/-- the generator's frame: entered at s (where it was made); pn: its own object -/
def genCx (X : Cx) (s : Shared) (H : Hp) (cenv : Env) (fp : List Addr) (pn : List (Addr × Obj)) : Cx where
  prog := X.prog
  w := X.w
  K := X.K
  mg := X.mg
  base := X.base
  A := X.A.in1.in1.deeper cenv
  N := X.N
  s_0 := s
  H_0 := H
  env := cenv
  outer := X.stack
  stack := cenv :: X.stack
  ex := fp
  fn := fun _ => false
  calm := true
  pn := pn
  xe := fun _ _ => False
def genC (N : List Str) (sc scope : Scope) (x : Str) (i : Nat) : Bool :=
  (match scope.kind with | .function => true | _ => false) && !scope.isCoroutine && decide (N[i]? = some x) && decide ((".0" : Str) ∉ N) && decide (scope.names.lookup (".0" : Str) = some .local) && decide (scope.names.lookup x = some .local) &&
    scope.names.all fun y => match y.2 with
      | .free => (match sc.names.lookup y.1 with | some .cell => true | some .free => true | _ => false)
      | .local => decide (y.1 = ".0") || decide (y.1 = x)
      | .cell => false
      | _ => true
structure GenOk (N : List Str) (sc scope : Scope) (x : Str) (i : Nat) : Prop where
  kind : scope.kind = .function
  co : scope.isCoroutine = false
  ix : N[i]? = some x
  no0 : (".0" : Str) ∉ N
  dot : scope.names.lookup (".0" : Str) = some .local
  loc : scope.names.lookup x = some .local
  cell : ∀ y ∈ scope.names, y.2 ≠ .cell
  own : ∀ y ∈ scope.names, y.2 = .local → y.1 = (".0" : Str) ∨ y.1 = x
  free : ∀ y ∈ scope.names, y.2 = .free → sc.names.lookup y.1 = some .cell ∨ sc.names.lookup y.1 = some .free
theorem genOk_by {N : List Str} {sc scope : Scope} {x : Str} {i : Nat} (h : genC N sc scope x i = true) : GenOk N sc scope x i := by
  unfold genC at h
  simp only [Bool.and_eq_true, List.all_eq_true, decide_eq_true_eq, Bool.not_eq_true'] at h
  obtain ⟨⟨⟨⟨⟨⟨h1, h2⟩, h3⟩, h4⟩, h5⟩, h6⟩, h7⟩ := h
  refine ⟨?_, h2, h3, h4, h5, h6, fun y hy e => ?_, fun y hy e => ?_, fun y hy e => ?_⟩
  · split at h1
    · assumption
    · cases h1
  · have z := h7 y hy
    rw [e] at z
    cases z
  · have z := h7 y hy
    rw [e] at z
    simpa using z
  · have z := h7 y hy
    rw [e] at z
    have z : (match sc.names.lookup y.1 with | some .cell => true | some .free => true | _ => false) = true := z
    split at z
    · rename_i q; exact .inl q
    · rename_i q; exact .inr q
    · cases z
theorem inv_same {X : Cx} {pins : List (Addr × Obj)} {σ : L2.St} {H : Hp} {s s' : Shared} (I : Inv X pins σ H s) (hh : s'.heap = s.heap) (ho : s'.os = s.os) (hb : AllBare s'.gens) : Inv X pins σ H s' := by
  obtain ⟨h, g, d, t, o⟩ := s
  obtain ⟨h', g', d', t', o'⟩ := s'
  cases (show h' = h from hh)
  cases (show o' = o from ho)
  exact ⟨I.ok, I.os, hb, I.base, I.loc, I.cell, I.free, I.freeC, I.pin, I.hok, I.len⟩
theorem bare_set {a : Array GenState} {g : Nat} {x : GenState} (h : AllBare a) (hx : x.bare = true) : AllBare (a.setIfInBounds g x) := fun y hy => by
  rcases Array.mem_or_eq_of_mem_setIfInBounds hy with z | z
  · exact h y z
  · rw [z]; exact hx
theorem over_gen {A : Around} {elt : Expr} {gs : List Comprehension} {scope : Scope} {pos : Pos} {it acc : Value} {env : Env} : A.over (.compLoop (.GeneratorExp elt gs scope pos) 0 it acc env) [] = A.deeper env := by
  first
    | rfl
    | (obtain ⟨hd, d, fr, gs, u⟩ := A; simp [Around.over, Around.deeper, marksOver, frameCount, unitsOf, envsOf, guardsOf, pushEnvs, pushGuards, Code.envs, Code.env?, Code.isFrame, Code.guards, Code.isGuard, Code.weight, Code.frames, Code.isCreation, Code.isCaller, Code.cUnits])
theorem over_gens {A : Around} {elt : Expr} {gs : List Comprehension} {scope : Scope} {pos : Pos} {it acc : Value} {env : Env} : A.over (.compStart (.GeneratorExp elt gs scope pos) 0 it acc env) [] = A.deeper env := by
  first
    | rfl
    | (obtain ⟨hd, d, fr, gs, u⟩ := A; simp [Around.over, Around.deeper, marksOver, frameCount, unitsOf, envsOf, guardsOf, pushEnvs, pushGuards, Code.envs, Code.env?, Code.isFrame, Code.guards, Code.isGuard, Code.weight, Code.frames, Code.isCreation, Code.isCaller, Code.cUnits])
section
variable {X : Cx} {pins : List (Addr × Obj)} {σ : L2.St} {H : Hp} {s : Shared}
abbrev genE (X : Cx) (scope : Scope) (C : Addr) (code : Value) : Env := genEnv scope (cloFrom X.env.cells scope.names []) C code builtinsNs X.env
theorem gen_start {scope : Scope} {x : Str} {i : Nat} {fp : List Addr} {code : Value} {pn : List (Addr × Obj)} {s' : Shared} {m : Str → Option Value} (hcalm : X.calm = true) (hN : X.N.Nodup) (I : Inv X pins σ H s) (ok : GenOk X.N X.env.scope scope x i) (hfp : ∀ b ∈ fp, FpOk X pins H b ∧ b < s.heap.objs.size)
    (hos : s'.os = s.os) (hg : AllBare s'.gens) (kp : ∀ b o, s.heap.get? b = some o → s'.heap.get? b = some o) (hn : s'.heap.Ns s.heap.objs.size m) (hpn : ∀ p ∈ pn, s'.heap.get? p.1 = some p.2 ∧ s.heap.objs.size < p.1 ∧ ∀ v, p.2.data ≠ .cell v) :
    Inv (genCx X s H (genE X scope s.heap.objs.size code) fp pn) [] (L2.wipe σ [i]) H s' := by
  have hfree : ∀ y ∈ scope.names, y.2 = .free → ∃ c, X.env.cells.lookup y.1 = some c := fun y hy e => by
    rcases ok.free y hy e with k | k
    · exact I.ok.has _ (.inl k)
    · exact I.ok.has _ (.inr k)
  have cm : ∀ {y c}, (cloFrom X.env.cells scope.names []).lookup y = some c → X.env.cells.lookup y = some c := fun {y c} e => by
    rcases cloFrom_mem (PySem.mem_of_lookup e) with hm | ⟨h1, h2⟩
    · cases hm
    · obtain ⟨c1, hc⟩ := hfree _ h1 rfl
      have hc : X.env.cells.lookup y = some c1 := hc
      have e2 : c = c1 := by
        rw [h2, hc] <;> rfl
      rw [e2]
      exact hc
  have look : ∀ {y}, scope.names.lookup y = some .free → ∃ c, (cloFrom X.env.cells scope.names []).lookup y = some c := fun {y} hl => by
    have hy : (y, NameKind.free) ∈ scope.names := PySem.mem_of_lookup hl
    exact mem_lookup (cloFrom_has (cells := X.env.cells) (acc := []) hy)
  have fpA : ∀ b ∈ fp, b ∉ frs X.stack := fun b hb z => by
    rcases List.mem_cons.mp (I.stkSub b z) with z | z
    · exact (hfp b hb).1.2.1 z
    · exact (hfp b hb).1.2.2.1 z
  refine ⟨⟨I.ok.mod, ok.kind, I.ok.glob, rfl, Nat.le_refl _, fun y z c e1 e2 => I.ok.inj y z c (cm e1) (cm e2), fun y hy => ?_, fun y c z _ => ?_, fun _ => I.ok.hd hcalm, Around.frames_deeper I.ok.frames, .inr ⟨rfl, rfl⟩, fun b hb => ⟨Nat.ne_of_lt (hfp b hb).2, fun y c e => (hfp b hb).1.2.2.2.2.1 y c (cm e)⟩, I.bs, Nat.le_trans I.ok.bsz I.sz, fun b o e hb => ?_,
      fun b hb => fpA b hb, I.stack, I.stkFree⟩,
    hos, hg, Un.kept kp, ⟨m, hn, fun j y v e1 e2 e3 => ?_⟩, fun y c e => ?_, I.hok.fresh (Nat.le_refl _), fun y c e => I.freeC y c (cm e), fun q hq => ?_, I.hok.kept kp, by rw [wipe_length]; exact I.len⟩
  · have hy : scope.names.lookup y = some .cell ∨ scope.names.lookup y = some .free := hy
    rcases hy with hy | hy
    · exact absurd rfl (ok.cell _ (PySem.mem_of_lookup hy))
    · exact look hy
  · have z : false = true := z
    cases z
  · rcases (hfp b hb).1.2.2.2.1 with z | z
    · exact I.ok.noex b o e z
    · exact absurd (Nat.lt_of_lt_of_le (Heap.lt_size e) (Nat.le_trans I.ok.bsz z)) (Nat.lt_irrefl _)
  · obtain ⟨e2, hne⟩ := wipe_some e2
    have e3 : Vis scope y := e3
    rcases e3 with k | k | k
    · rcases ok.own _ (PySem.mem_of_lookup k) rfl with z | z
      · have z : y = ".0" := z
        rw [z] at e1
        exact absurd (List.mem_of_getElem? e1) ok.no0
      · have z : y = x := z
        rw [z] at e1
        exact absurd (List.mem_singleton.mpr (nodup_ix hN e1 ok.ix)) hne
    · exact absurd rfl (ok.cell _ (PySem.mem_of_lookup k))
    · obtain ⟨m, hn, hl⟩ := I.loc
      have hvis : Vis X.env.scope y := (ok.free _ (PySem.mem_of_lookup k) rfl).elim (fun k => .inr (.inl k)) (fun k => .inr (.inr k))
      obtain ⟨w', r, q⟩ := hl j y v e1 e2 hvis
      obtain ⟨c2, h2⟩ := look k
      refine ⟨w', r, .inr ⟨.inr k, c2, h2, ?_⟩⟩
      have c1 := cm h2
      rcases q with ⟨k', _⟩ | ⟨_, c3, e', z⟩
      · have k' : X.env.scope.names.lookup y = some .local := k'
        rcases ok.free _ (PySem.mem_of_lookup k) rfl with k2 | k2 <;> rw [show X.env.scope.names.lookup y = _ from k2] at k' <;> cases k'
      · rw [c1] at e'
        cases e'
        exact z.keeps kp
  · obtain ⟨w', z⟩ := I.cell y c (cm e)
    exact ⟨w', z.keeps kp⟩
  · obtain ⟨h1, h2, h3⟩ := hpn q ((List.append_nil pn) ▸ (show q ∈ pn ++ [] from hq))
    exact ⟨h1, I.hok.fresh (Nat.le_of_lt h2), Nat.ne_of_gt h2, fun z => (List.mem_cons.mp (I.stkSub _ z)).elim (fun z => by rw [z] at h2; exact absurd (Nat.lt_trans h2 I.lt) (Nat.lt_irrefl _)) (fun z => I.nofs (Nat.le_of_lt h2) z), h3⟩

/-! ### the loop -/
def allD (tf : Tg) (fe : SE) : List PyData → Rho → Dc → Res (Val × Dc)
  | [], _, dc => .ok (.p (.bool true), dc)
  | x :: xs, ρ, dc => match tf x ρ with
    | none => .stuck
    | some ρ1 => match fe ρ1 dc with
      | .ok (.p (.bool true), dc') => allD tf fe xs ρ dc'
      | .ok (.p (.bool false), dc') => .ok (.p (.bool false), dc')
      | _ => .stuck
def eAll (it : SM (List PyData)) (i : Nat) (fe : SE) : SE := SM.bind it fun xs ρ dc => allD (tgN i) fe xs (wipeR ρ [i]) dc
section
variable {g : Cg} {t : Ct} {E : XK}
/-- what stands ahead of the item i; behind the last; behind a false one -/
structure LI (X' : Cx) (g : Cg) (t : Ct) (E : XK) (F1 H3 : Hp) (σw : L2.St) (fp : List Addr) (tn : Nat → Heap → Prop) (gi : Nat) (Q : VK) (res : Dc → Res (Val × Dc)) (i : Nat) (s : Shared) : Prop where
  ex : ∃ H' F' dc', Inv X' [] σw H' s ∧ tn i s.heap ∧ (∀ b ∈ fp, H' b = none) ∧ gi < s.gens.size ∧ Gr g.T t.ad F1 H3 F' H' ∧ DiceAt t dc' F' H' ∧ PostG g t E (fun F H v x => VR g t F H v x) F1 H3 (res dc') Q
structure LE (X' : Cx) (g : Cg) (t : Ct) (E : XK) (F1 H3 : Hp) (σw : L2.St) (gi : Nat) (Q : VK) (b : Bool) (s : Shared) : Prop where
  ex : ∃ H' F' dc', Inv X' [] σw H' s ∧ gi < s.gens.size ∧ Gr g.T t.ad F1 H3 F' H' ∧ DiceAt t dc' F' H' ∧ PostG g t E (fun F H v x => VR g t F H v x) F1 H3 (.ok (.p (.bool b), dc')) Q
theorem LI.same {X' : Cx} {F1 H3 : Hp} {σw : L2.St} {fp : List Addr} {tn : Nat → Heap → Prop} {gi : Nat} {Q : VK} {res : Dc → Res (Val × Dc)} {i : Nat} {s s' : Shared} (h : LI X' g t E F1 H3 σw fp tn gi Q res i s) (hh : s'.heap = s.heap) (ho : s'.os = s.os) (hb : AllBare s'.gens) (hz : gi < s'.gens.size) : LI X' g t E F1 H3 σw fp tn gi Q res i s' := by
  obtain ⟨H', F', dc', I, h1, h2, h3, h4⟩ := h
  exact ⟨H', F', dc', inv_same I hh ho hb, by rw [hh]; exact h1, h2, hz, h4⟩
def YL (n : Nat) (L : Nat → Shared → Prop) (L0 : Shared → Prop) : Protocol := fun m s₀ v s kap =>
  ∃ (b : Bool) (i : Nat), v = .bool b ∧ i + 1 + m = n ∧ (b = true → L (i + 1) s) ∧ (b = false → L0 s) ∧ ∀ s', s'.heap = s.heap → s'.os = s.os → AllBare s'.gens → s.gens.size ≤ s'.gens.size → b = true → kap (.send .none) s'
theorem seg_all {elt iter : Expr} {x : Str} {px : Pos} {scope : Scope} {pos : Pos} {ix : Nat} {s3 : Shared} {H1 H3 F1 : Hp} {code : Value} {fp : List Addr} {pn : List (Addr × Obj)} {it : Addr} {J : It} {tn : Nat → Heap → Prop} {ρ : Rho} {dc1 : Dc} {xs : List PyData} {fe : SE} {gi : Nat} {Q : VK}
    (hN : X.N.Nodup) (ok : GenOk X.N X.env.scope scope x ix) (hfp : ∀ b ∈ fp, b < s3.heap.objs.size) (hpf : ∀ p ∈ pn, ∀ b ∈ fp, p.1 ≠ b) (T : Turn X.prog X.w X.K (.Name x px) J fp it tn) (s1 : SR g t ρ dc1 F1 σ H1) (g3 : Gr g.T t.ad F1 H1 F1 H3) (wk : Wk (fun F2 H2 => Gr g.T t.ad F1 H1 F2 H2) J xs)
    (he : DE (genCx X s3 H3 (genE X scope s3.heap.objs.size code) fp pn) g t L2.E0 elt fe) :
    ∀ (k i : Nat) (s₀ s : Shared), xs.length - i = k → i ≤ xs.length → LI (genCx X s3 H3 (genE X scope s3.heap.objs.size code) fp pn) g t E F1 H3 (L2.wipe σ [ix]) fp tn gi Q (fun dc => allD (tgN ix) fe (xs.drop i) (wipeR ρ [ix]) dc) i s →
      Seg (model X.prog X.w) X.A.in1.in1 (fun n s₀ r s₁ => r = .ok .next ∧ (n = 0 ∧ LE (genCx X s3 H3 (genE X scope s3.heap.objs.size code) fp pn) g t E F1 H3 (L2.wipe σ [ix]) gi Q true s₁))
        (YL xs.length (fun i => LI (genCx X s3 H3 (genE X scope s3.heap.objs.size code) fp pn) g t E F1 H3 (L2.wipe σ [ix]) fp tn gi Q (fun dc => allD (tgN ix) fe (xs.drop i) (wipeR ρ [ix]) dc) i)
          (LE (genCx X s3 H3 (genE X scope s3.heap.objs.size code) fp pn) g t E F1 H3 (L2.wipe σ [ix]) gi Q false)) k s₀
        (.compLoop (.GeneratorExp elt [⟨.Name x px, iter, [], 0⟩] scope pos) 0 (.ref it) .none (genE X scope s3.heap.objs.size code))
        ((model X.prog X.w).den (.compLoop (.GeneratorExp elt [⟨.Name x px, iter, [], 0⟩] scope pos) 0 (.ref it) .none (genE X scope s3.heap.objs.size code))) [] s := by
  obtain ⟨te, pe, ee⟩ := he
  have pg : PG (genCx X s3 H3 (genE X scope s3.heap.objs.size code) fp pn) (.Name x px) (gName ix) := pg_name hN ok.ix (.inl ok.loc) (.inr ok.loc)
  generalize hXX : genCx X s3 H3 (genE X scope s3.heap.objs.size code) fp pn = X' at *
  have eP : X'.prog = X.prog := by rw [← hXX]; rfl
  have ew : X'.w = X.w := by rw [← hXX]; rfl
  have eK : X'.K = X.K := by rw [← hXX]; rfl
  have eA : X'.A = X.A.in1.in1.deeper (genE X scope s3.heap.objs.size code) := by rw [← hXX]; rfl
  have eE : X'.env = genE X scope s3.heap.objs.size code := by rw [← hXX]; rfl
  have ec : X'.calm = true := by rw [← hXX]; rfl
  have ex : X'.ex = fp := by rw [← hXX]; rfl
  have eX : X'.xe = fun _ _ => False := by rw [← hXX]; rfl
  have epn : X'.pn = pn := by rw [← hXX]; rfl
  have stat : ∀ {σ' : L2.St} {H' : Hp} {s' : Shared}, Inv X' [] σ' H' s' → (∀ b ∈ fp, H' b = none) → ∀ b ∈ fp, FpOk X' [] H' b := fun {σ' H' s'} I' hn b hb =>
    ⟨hn b hb, (I'.ok.exf b (by rw [ex]; exact hb)).1, I'.ok.exfs b (by rw [ex]; exact hb), .inl (by rw [ex]; exact hb), fun x c e => (I'.ok.exf b (by rw [ex]; exact hb)).2 x c e, fun p hp => hpf p (by rw [epn, List.append_nil] at hp; exact hp) b hb⟩
  intro k
  induction k with
  | zero =>
    intro i s₀ s hk hi h
    obtain ⟨H', F', dc', I, h1, h2, h3, gr, dd, hp⟩ := h
    have e : i = xs.length := by omega
    subst e
    obtain ⟨_, wst⟩ := wk F' H' (g3.trans gr) gr.inc xs.length
    show Seg _ _ _ _ _ s₀ _ ((compTurn (.GeneratorExp elt [⟨.Name x px, iter, [], 0⟩] scope pos) 0 (.ref it) .none (genE X scope s3.heap.objs.size code)).onRaise (leaving (genE X scope s3.heap.objs.size code))) [] s
    rw [compTurn_gen, Sem.onRaise_eq_wrap]
    refine seg_bind_wrap (wpAny_standAt ?_)
    refine seg_bind_wrap ?_
    rw [over_gen, ← eA]
    have td := T.done X' eP ew eK ec xs.length [] s _ H' (fun _ _ => False) I (stat I h2) h1 (wst (Nat.le_refl _))
    refine wpAny_gsz (Nat.succ_le_of_lt h3) (thnF td fun r s6 ⟨hr, I6⟩ hz => ?_)
    subst hr
    rw [List.drop_length] at hp
    exact seg_end (.ok .next) ⟨rfl, rfl, H', F', dc', I6, hz, gr, dd, hp⟩
  | succ k ih =>
    intro i s₀ s hk hi h
    obtain ⟨H', F', dc', I, h1, h2, h3, gr, dd, hp⟩ := h
    have hlt : i < xs.length := by omega
    obtain ⟨wgo, _⟩ := wk F' H' (g3.trans gr) gr.inc i
    have hx : xs[i]? = some xs[i] := List.getElem?_eq_getElem hlt
    obtain ⟨hgo, hy⟩ := wgo _ hx
    rw [List.drop_eq_getElem_cons hlt] at hp
    show Seg _ _ _ _ _ s₀ _ ((compTurn (.GeneratorExp elt [⟨.Name x px, iter, [], 0⟩] scope pos) 0 (.ref it) .none (genE X scope s3.heap.objs.size code)).onRaise (leaving (genE X scope s3.heap.objs.size code))) [] s
    rw [compTurn_gen, Sem.onRaise_eq_wrap]
    refine seg_bind_wrap (wpAny_standAt ?_)
    refine seg_bind_wrap ?_
    rw [over_gen, ← eA]
    have ti := T.item X' eP ew eK ec i [] s _ H' (fun _ _ => False) I (stat I h2) h1 hgo
    refine wpAny_gsz (Nat.succ_le_of_lt h3) (thnF ti fun r s6 ⟨u, hr, h6⟩ hz6 => ?_)
    subst hr
    refine seg_bind_wrap ?_
    rw [over_gen, ← eA]
    refine wpAny_gsz hz6 (thnF h6 fun _ s7 ⟨y, H7, I7, r7, y7, st7, n7⟩ hz7 => ?_)
    obtain ⟨e7, rx⟩ := hy y H7 y7
    subst e7
    have I7' := I7.pinned (stat I7 n7) (T.obj _ _ st7)
    have sr := (s1.gr' (g3.trans gr) dd).wipe [ix]
    have sr8 := sr.setF (i := ix) (x := .p xs[i]) (y := .p xs[i]) rx rfl
    have pa := pg.run _ s7 _ H7 y u (fun σ' H' => σ' = (L2.wipe σ [ix]).set ix (some y) ∧ H' = H7) I7' r7 ⟨rfl, rfl⟩
    rw [eP, ew, eE, eX] at pa
    refine seg_bind_wrap ?_
    rw [over_gen, ← eA]
    refine wpAny_gsz hz7 (thnF pa fun _ s8 ⟨σ8, H8, I8, e8, e9⟩ hz8 => ?_)
    subst e8
    subst e9
    refine seg_bind_wrap (wpAny_tests_nil ?_)
    simp only [if_true]
    have hyo : ∀ v, yieldOut (genE X scope s3.heap.objs.size code) v = yieldValue v := fun v => by
      have hco : (genE X scope s3.heap.objs.size code).scope.isCoroutine = false := ok.co
      simp only [yieldOut, hco, Bool.false_eq_true, if_false]
    simp only [hyo]
    rw [Sem.bind_eq_wrap', Sem.bind_eq_wrap', Sem.wrap_wrap, Sem.wrap_wrap]
    refine seg_wrap ?_
    rw [over_gen, ← eA]
    -- the element
    have hel : te ((L2.wipe σ [ix]).set ix (some y)) H8 (fun v H4 => ∃ b F4 dc4, v = .bl b ∧ Gr g.T t.ad F' H8 F4 H4 ∧ DiceAt t dc4 F4 H4 ∧
        PostG g t E (fun F H v x => VR g t F H v x) F1 H3 (if b = true then allD (tgN ix) fe (xs.drop (i + 1)) (wipeR ρ [ix]) dc4 else .ok (.p (.bool false), dc4)) Q) := by
      refine ee _ dc' F' _ H8 _ sr8 ?_
      unfold allD at hp
      have hp' : PostG g t E (fun F H v x => VR g t F H v x) F1 H3 (match fe ((wipeR ρ [ix]).set ix (some (.p xs[i]))) dc' with
        | .ok (.p (.bool true), dc') => allD (tgN ix) fe (xs.drop (i + 1)) (wipeR ρ [ix]) dc'
        | .ok (.p (.bool false), dc') => .ok (.p (.bool false), dc')
        | _ => .stuck) Q := hp
      cases q : fe ((wipeR ρ [ix]).set ix (some (.p xs[i]))) dc' with
      | ok a =>
        obtain ⟨z, dc4⟩ := a
        simp only [q] at hp'
        cases z with
        | p d =>
          cases d with
          | bool b =>
            intro v F4 H4 g4 d4 r4
            obtain rfl := vr_bool r4
            refine ⟨b, F4, dc4, rfl, g4, d4, ?_⟩
            cases b with
            | true => exact hp'
            | false => exact hp'
          | none => exact hp'.elim
          | int _ => exact hp'.elim
          | str _ => exact hp'.elim
          | list _ => exact hp'.elim
          | tuple _ => exact hp'.elim
          | dict _ => exact hp'.elim
        | ol _ => exact hp'.elim
        | fd _ => exact hp'.elim
        | od _ => exact hp'.elim
        | dice => exact hp'.elim
        | scr _ => exact hp'.elim
      | exn n => simp only [q] at hp'; exact hp'.elim
      | stuck => simp only [q] at hp'; exact hp'.elim
    have pel := pe.run _ s8 _ H8 _ I8 hel
    rw [eP, ew, eE, eX] at pel
    refine wpAny_gsz hz8 (thnF pel fun v s10 ⟨z, H10, I10, r10, b, F4, dc4, ez, g4, d4, hq⟩ hz10 => ?_)
    subst ez
    obtain rfl : v = .bool b := r10
    have pin' : ∀ b ∈ fp, ∀ o, s7.heap.get? b = some o → s10.heap.get? b = some o ∧ H10 b = none := fun b hb o e =>
      let z := I10.pin (b, o) (List.mem_append_right _ (List.mem_append_right _ (mem_pinsAt hb e)))
      ⟨z.1, z.2.1⟩
    have Iw : Inv X' [] (L2.wipe σ [ix]) H10 s10 := (I10.unpinned (pins := [])).weak (by rw [List.length_set]) fun j v e => by
      have hj := (wipe_some e).2
      rw [List.getElem?_set_ne (fun z => hj (List.mem_singleton.mpr z.symm))]
      exact e
    have tn10 : tn (i + 1) s10.heap := T.keep _ _ _ st7 fun b hb o e => (pin' b hb o e).1
    have fr10 : ∀ b ∈ fp, H10 b = none := fun b hb => by
      obtain ⟨o, e, _⟩ := T.obj _ _ st7 b hb
      exact (pin' b hb o e).2
    have gr10 := gr.trans g4
    have next : b = true → LI X' g t E F1 H3 (L2.wipe σ [ix]) fp tn gi Q (fun dc => allD (tgN ix) fe (xs.drop (i + 1)) (wipeR ρ [ix]) dc) (i + 1) s10 := fun hb => by
      rw [if_pos hb] at hq
      exact ⟨H10, F4, dc4, Iw, tn10, fr10, hz10, gr10, d4, hq⟩
    refine seg_at (seg_yield rfl rfl rfl ⟨b, i, rfl, by omega, next, fun hb => ?_, fun s' hh ho hbare hsz hb => ?_⟩)
    · rw [if_neg (by rw [hb]; exact Bool.false_ne_true)] at hq
      exact ⟨H10, F4, dc4, Iw, hz10, gr10, d4, hq⟩
    · exact seg_again rfl (ih (i + 1) s' s' (by omega) hlt ((next hb).same hh ho hbare (Nat.lt_of_lt_of_le hz10 hsz)))
end
end
end DL

set_option maxHeartbeats 4000000
namespace DL
open PySem PySem.Spec PyProof.Rows L2 GenW
section
variable {X : Cx} {g : Cg} {t : Ct} {E : XK} {pins : List (Addr × Obj)} {σ : L2.St} {H : Hp} {s : Shared}
theorem LE.same {X' : Cx} {F1 H3 : Hp} {σw : L2.St} {gi : Nat} {Q : VK} {b : Bool} {s s' : Shared} (h : LE X' g t E F1 H3 σw gi Q b s) (hh : s'.heap = s.heap) (ho : s'.os = s.os) (hb : AllBare s'.gens) (hz : gi < s'.gens.size) : LE X' g t E F1 H3 σw gi Q b s' := by
  obtain ⟨H', F', dc', I, h3, h4⟩ := h
  exact ⟨H', F', dc', inv_same I hh ho hb, hz, h4⟩
/-- the generator's state between the turns -/
structure GA (X' : Cx) (A : Around) (g : Cg) (t : Ct) (E : XK) (F1 H3 : Hp) (σw : L2.St) (fp : List Addr) (tn : Nat → Heap → Prop) (gi : Nat) (Q : VK) (tf : Tg) (fe : SE) (xs : List PyData) (ρ : Rho) (i : Nat) (s : Shared) : Prop where
  li : LI X' g t E F1 H3 σw fp tn gi Q (fun dc => allD tf fe (xs.drop i) ρ dc) i s
  goes : ∃ gs, s.gens[gi]? = some gs ∧ ∀ s'' : Shared, s''.heap = s.heap → s''.os = s.os → AllBare s''.gens → s.gens.size ≤ s''.gens.size →
    gs.Goes (model X'.prog X'.w) A (fun n s₀ r s₁ => r = .ok .next ∧ (n = 0 ∧ LE X' g t E F1 H3 σw gi Q true s₁)) (YL xs.length (fun i => LI X' g t E F1 H3 σw fp tn gi Q (fun dc => allD tf fe (xs.drop i) ρ dc) i) (LE X' g t E F1 H3 σw gi Q false)) (xs.length - i) (.send .none) s''
theorem gens_at {a : Array GenState} {gi : Nat} {x : GenState} (h : gi < a.size) : (a.setIfInBounds gi x)[gi]? = some x := by simp [h]
theorem code_all {A : Around} {a : Addr} {X' : Cx} {F1 H3 : Hp} {σw : L2.St} {fp : List Addr} {tn : Nat → Heap → Prop} {gi : Nat} {Q : VK} {tf : Tg} {fe : SE} {xs : List PyData} {ρ : Rho} {R : Result → Shared → Prop} (hh : A.handled = none) (hroom : A.depth < recursionLimit)
    (hG : ∀ σ' H' s', Inv X' [] σ' H' s' → s'.heap.IsGen a gi) (hR : ∀ b s', (∃ H' F' dc', Inv X' [] σw H' s' ∧ Gr g.T t.ad F1 H3 F' H' ∧ DiceAt t dc' F' H' ∧ PostG g t E (fun F H v x => VR g t F H v x) F1 H3 (.ok (.p (.bool b), dc')) Q) → R (.ok (.ret (.bool b))) s') :
    ∀ (k i : Nat) (s : Shared), xs.length - i = k → i ≤ xs.length → GA X' A.in1.in1 g t E F1 H3 σw fp tn gi Q tf fe xs ρ i s → codeAny (model X'.prog X'.w) A (.builtin "all.loop" ⟨[.ref a], []⟩) R s := by
  intro k
  induction k with
  | zero =>
    intro i s hk hi h
    obtain ⟨li, gs, hgs, hgo⟩ := h
    obtain ⟨H', F', dc', I, h1, h2, h3, gr, dd, hp⟩ := id li
    rw [hk] at hgo
    refine codeAny_builtin F.entry_all_loop ?_
    rw [Around.under_plainId F.plain_all_loop _]
    show wpAny _ A.in1 (pyNext (.ref a) >>= _) _ _ s
    refine wpAny_bind (wpAny_pyNext_genexpQ (P := fun n s₀ s₁ => n = 0 ∧ LE X' g t E F1 H3 σw gi Q true s₁) hh I.nolimit hroom (hG _ _ _ I) hgs (hgo (s.setGen gi .running) rfl rfl (bare_set I.bare rfl) (by rw [setGen_size]; exact Nat.le_refl _)) (fun v s₁ gs' hb hv => ?_) (fun s₁ hp' h' hk' => ?_))
    · obtain ⟨b, i', rfl, hi', L1, L0, kap⟩ := hv
      cases b with
      | true =>
        obtain ⟨H2, F2, dc2, I2, _, _, h32, _⟩ := L1 rfl
        exact (kap s₁ rfl rfl I2.bare (Nat.le_refl _) rfl).elim
      | false =>
        obtain ⟨H2, F2, dc2, I2, h32, r2⟩ := L0 rfl
        refine wpAny_bind (wpAny_holding (wpAny_truthy_bool ?_))
        refine wpAny_bind (wpAny_letGo ?_)
        simp only [Bool.false_eq_true, if_false]
        refine wpAny_bind (wpAny_rule (wpAny_pure ?_))
        exact hR false _ ⟨H2, F2, dc2, inv_same I2 rfl rfl (bare_set I2.bare hb), r2⟩
    · obtain ⟨_, H2, F2, dc2, I2, h32, r2⟩ := hp'
      refine wpAny_bind (wpAny_rule (wpAny_pure ?_))
      have J : Inv X' [] σw H2 (s₁.setGen gi .finished) := inv_same I2 rfl rfl (bare_set I2.bare rfl)
      exact hR true _ ⟨H2, F2, dc2, J.kept (t' := (s₁.setGen gi .finished).toks) hk', r2⟩
  | succ k ih =>
    intro i s hk hi h
    obtain ⟨li, gs, hgs, hgo⟩ := h
    obtain ⟨H', F', dc', I, h1, h2, h3, gr, dd, hp⟩ := id li
    rw [hk] at hgo
    refine codeAny_builtin F.entry_all_loop ?_
    rw [Around.under_plainId F.plain_all_loop _]
    show wpAny _ A.in1 (pyNext (.ref a) >>= _) _ _ s
    refine wpAny_bind (wpAny_pyNext_genexpQ (P := fun n s₀ s₁ => n = 0 ∧ LE X' g t E F1 H3 σw gi Q true s₁) hh I.nolimit hroom (hG _ _ _ I) hgs (hgo (s.setGen gi .running) rfl rfl (bare_set I.bare rfl) (by rw [setGen_size]; exact Nat.le_refl _)) (fun v s₁ gs' hb hv => ?_) (fun s₁ hp' h' hk' => ?_))
    · obtain ⟨b, i', rfl, hi', L1, L0, kap⟩ := hv
      refine wpAny_bind (wpAny_holding (wpAny_truthy_bool ?_))
      refine wpAny_bind (wpAny_letGo ?_)
      cases b with
      | true =>
        obtain ⟨H2, F2, dc2, I2, _, _, h32, _⟩ := id (L1 rfl)
        have e : i' = i := by omega
        subst e
        simp only [if_true]
        refine wpAny_pure ⟨plainId_quiet F.plain_all_loop _, ih (i' + 1) _ (by omega) (by omega) ⟨(L1 rfl).same rfl rfl (bare_set I2.bare hb) (by rw [setGen_size]; exact h32), gs', gens_at h32, fun s'' e1 e2 e3 e4 => ?_⟩⟩
        have : xs.length - (i' + 1) = k := by omega
        rw [this]
        exact kap s'' e1 e2 e3 (by rw [setGen_size] at e4; exact e4) rfl
      | false =>
        obtain ⟨H2, F2, dc2, I2, h32, r2⟩ := L0 rfl
        simp only [Bool.false_eq_true, if_false]
        refine wpAny_bind (wpAny_rule (wpAny_pure ?_))
        exact hR false _ ⟨H2, F2, dc2, inv_same I2 rfl rfl (bare_set I2.bare hb), r2⟩
    · exact absurd hp'.1 (Nat.succ_ne_zero k)
theorem boot_all : bootBuiltins "all" = some (.builtin "all") := by rfl
theorem de_allG {c P : Addr} {elt iter : Expr} {x : Str} {px p pos gpos : Pos} {scope : Scope} {ix k : Nat} {fi : SM (List PyData)} {fe : SE} (hr : Room (k + 1) X.A) (hN : X.N.Nodup) (hm : X.mg "all" = none) (TB : GxR.TabB X.base X.mg c P) (hcode : X.env.code = .ref c) (hT : ((P, none) : Addr × Option Str) ∈ g.T) (hu : ∀ p ∈ g.T, p.1 = P → p.2 = none)
    (ok : GenOk X.N X.env.scope scope x ix) (hi : DIc X g t E (.Name x px) iter fi)
    (he : ∀ (s : Shared) (H : Hp) (code : Value) (fp : List Addr) (pn : List (Addr × Obj)), Room k (genCx X s H (genE X scope s.heap.objs.size code) fp pn).A → DE (genCx X s H (genE X scope s.heap.objs.size code) fp pn) g t L2.E0 elt fe)
    (hg : Gl X "all" := by rfl) (hc : X.calm = true := by rfl) (hs : ∀ v, genFold iter X.env v = pure v := by intro _; rfl)
    (hst : starEach [.GeneratorExp elt [⟨.Name x px, iter, [], 0⟩] scope gpos] X.env = (false, eval (.GeneratorExp elt [⟨.Name x px, iter, [], 0⟩] scope gpos) X.env) :: starEach [] X.env := by rfl) :
    DE X g t E (.Call (.Name "all" p) [.GeneratorExp elt [⟨.Name x px, iter, [], 0⟩] scope gpos] [] pos) (eAll fi ix fe) := by
  obtain ⟨wi, pi, ei⟩ := hi
  refine ⟨semT g t E (fun F H v x => VR g t F H v x) (eAll fi ix fe), ⟨fun pins s σ H Q I ⟨ρ, dc, Fz, sr, hp⟩ => ?_⟩, semT_ev⟩
  have hfree : ∀ y ∈ scope.names, y.2 = .free → ∃ c, X.env.cells.lookup y.1 = some c := fun y hy e => by
    rcases ok.free y hy e with k | k
    · exact I.ok.has _ (.inl k)
    · exact I.ok.has _ (.inr k)
  have hw := ei.bind (Q1 := fun J H1 => ∃ xs dc1 F1, SR g t ρ dc1 F1 σ H1 ∧ Wk (fun F2 H2 => Gr g.T t.ad F1 H1 F2 H2) J xs ∧ PostG g t E (fun F H v x => VR g t F H v x) F1 H1 (allD (tgN ix) fe xs (wipeR ρ [ix]) dc1) Q) sr hp fun J xs dc1 F1 H1 g1 s1 wk hp1 => ⟨xs, dc1, F1, s1, wk, hp1⟩
  refine wpAny_Call_Name_kw (ld_blt I hg hm boot_all ?_)
  refine PyProof.Rows.callWith_builtin1 ?_ hst (by rfl)
  rw [hst]
  show wpAny _ _ (spliced ((false, eval (.GeneratorExp elt [⟨.Name x px, iter, [], 0⟩] scope gpos) X.env) :: backTo pos (starEach [] X.env))) _ _ s
  refine Calls.spliced_cons ?_
  refine wpAny_GeneratorExp_make ok.co (closure_ok hfree) ok.cell ok.dot ok.kind (hr.depth) ?_ hs
  refine thn (pi.run pins s σ H _ I hw) fun xv s1 h1 => thn h1 fun itv s2 h2 => ?_
  obtain ⟨it, fp, tn, J, H1, rfl, I1, T, st1, f1, xs, dc1, F1, sr1, wk, hp1⟩ := h2
  obtain ⟨ps, hP, ht⟩ : GxR.TabG H1 P := sr1.tab _ hT
  have hPs : s2.heap.get? P = some { cls := .none, data := .fields ps } := I1.hok P _ hP
  have cd : PySem.W.CodeHd s2.heap c P := TB.code.keeps I1.bk
  refine ⟨I1.nolimit, ?_⟩
  have fpP : ∀ b ∈ fp, b ≠ P := fun b hb z => by
    have := (f1 b hb).1
    rw [z, hP] at this
    cases this
  have cont : ∀ (code : Value) (h3 : Heap) (tk : Nat) (more : Array Value), Heap.ExtBut P s2.heap h3 → s2.heap.objs.size ≤ h3.objs.size → h3.get? P = some { cls := .none, data := .fields (ps ++ more) } → TriplesOk (ps ++ more).toList →
      wpAny (model X.prog X.w) X.A (builtinsFor X.env.globals X.env.builtins) (fun bi s₄ =>
        ∀ h', h'.Ns s₄.heap.objs.size (fun y => if y = ".0" then some (.ref it) else none) → Heap.SameBut s₄.heap.objs.size (s₄.heap.push { cls := .type "frame", data := .dict #[] }) h' →
          wpAny (model X.prog X.w) X.A (spliced (backTo pos (starEach [] X.env))) (fun vs s₁ => wpAny (model X.prog X.w) X.A (call (.builtin "all") (Value.ref h'.objs.size :: vs)) (EP X pins σ Q) X.xe s₁) X.xe
          { s₄ with
            gens := s₄.gens.push (.fresh (.compStart (.GeneratorExp elt [⟨.Name x px, iter, [], 0⟩] scope gpos) 0 (.ref it) .none (genEnv scope (cloFrom X.env.cells scope.names []) s₄.heap.objs.size code bi X.env))),
            toks := s₄.toks + 1 + 1 + 1,
            heap := h'.push { cls := .type "generator", data := .fields #[.int s₄.gens.size 0, .str "<genexpr>" (s₄.toks + 1), .str (X.env.qual ++ "<genexpr>") (s₄.toks + 1 + 1)] } }) X.xe { s2 with heap := h3, toks := tk } := by
    intro code h3 tk more hx hsz hP3 ht3
    obtain ⟨bm, ob, e1, e2, e3, e4, e5, e6, e7, e8⟩ := TB.bm
    have keep3 : ∀ b u, b ≠ P → s2.heap.get? b = some u → h3.get? b = some u := fun b u hb e => hx b u hb e
    refine wpAny_builtinsFor (m := X.mg) (by rw [I1.ok.glob]; exact (I1.mod.glob.keeps I1.bk).extBut hx TB.gP) e1 e2 (keep3 _ _ e4 (I1.bk _ _ e5)) e6 e7 e8 ?_
    intro h' hn' hs'
    refine Calls.spliced_nil ?_
    -- the state where the frame is made
    have I3 : Inv X pins σ (upd H1 P (.tbl (ps ++ more))) { s2 with heap := h3, gens := s2.gens, drawn := s2.drawn, toks := tk } := GxR.inv_tab I1 hP (fun b o hb e => keep3 b o hb e) hP3 I1.bare
    have nP : ∀ b u, H1 b = some u → NT u → b ≠ P := fun b u e q z => by
      rw [z, hP] at e
      exact q ps (Option.some.inj e).symm
    have tab3 : Tb g.T (upd H1 P (.tbl (ps ++ more))) := fun q hq => by
      by_cases hqP : q.1 = P
      · obtain ⟨qa, qb⟩ := q
        have z := hu _ hq hqP
        cases (show qb = none from z)
        cases (show qa = P from hqP)
        exact ⟨_, upd_same, ht3⟩
      · have z := sr1.tab q hq
        obtain ⟨qa, qb⟩ := q
        cases qb with
        | some nm =>
          obtain ⟨ps', a1, a2, a3⟩ := z
          refine ⟨ps', by rw [upd_ne hqP]; exact a1, a2, fun pos cv hcv => ?_⟩
          obtain ⟨c0, b1, b2⟩ := a3 pos cv hcv
          exact ⟨c0, b1, by rw [upd_ne (nP _ _ b2 (fun ps z => LamX.codeO_ne ps z))]; exact b2⟩
        | none =>
          obtain ⟨ps', a1, a2⟩ := z
          exact ⟨ps', by rw [upd_ne hqP]; exact a1, a2⟩
    have g3 : Gr g.T t.ad F1 H1 F1 (upd H1 P (.tbl (ps ++ more))) := by
      refine ⟨⟨fun b o h1 h2 _ => by rw [upd_ne (nP b o h1 h2)]; exact h1, fun b h1 => ?_, tab3, fun b qs h1 => ?_⟩, fun _ _ h => h, fun b o h => ?_, fun _ _ h => .inl h, fun b xs h1 => ?_⟩
      · by_cases hb : b = P
        · rw [hb, upd_same] at h1; cases h1
        · rw [upd_ne hb] at h1; exact h1
      · by_cases hb : b = P
        · rw [hb, upd_same]; exact ⟨_, rfl⟩
        · rw [upd_ne hb]; exact ⟨qs, h1⟩
      · have : b ≠ P := fun z => by
          have := sr1.ntT _ hT
          rw [z] at h
          rw [show F1 P = none from this] at h
          cases h
        rw [upd_ne this]
        exact sr1.inc b o h
      · by_cases hb : b = P
        · rw [hb, upd_same] at h1; cases h1
        · rw [upd_ne hb] at h1; exact .inr h1
    have d3 : DiceAt t dc1 F1 (upd H1 P (.tbl (ps ++ more))) := fun a ha => by
      obtain ⟨z1, z2, z3⟩ := sr1.dice a ha
      exact ⟨z1, z2, by rw [upd_ne (nP _ _ z3 lst_nt)]; exact z3⟩
    have hp3 := PostG.gr g3 hp1
    have f3 : ∀ b ∈ fp, FpOk X pins (upd H1 P (.tbl (ps ++ more))) b ∧ b < h3.objs.size := fun b hb => by
      obtain ⟨z1, z2⟩ := f1 b hb
      obtain ⟨o, ho, _⟩ := T.obj _ _ st1 b hb
      exact ⟨⟨by rw [upd_ne (fpP b hb)]; exact z1, z2⟩, Heap.lt_size (keep3 b o (fpP b hb) ho)⟩
    generalize hH3 : upd H1 P (.tbl (ps ++ more)) = H3 at *
    generalize hs3 : ({ s2 with heap := h3, toks := tk } : Shared) = s3 at *
    have e3h : s3.heap = h3 := by rw [← hs3]
    have kp5 : ∀ b o, s3.heap.get? b = some o → (h'.push { cls := .type "generator", data := .fields #[.int s3.gens.size 0, .str "<genexpr>" (s3.toks + 1), .str (X.env.qual ++ "<genexpr>") (s3.toks + 1 + 1)] }).get? b = some o := fun b o e =>
      Heap.get?_push_of_some _ (hs'.extBut b o (Nat.ne_of_lt (Heap.lt_size e)) (Heap.get?_push_of_some _ e))
    have hsz5 : h'.objs.size = s3.heap.objs.size + 1 := by rw [hs'.1, Heap.size_push]
    have ego : ∀ h : Heap, (h.push { cls := .type "generator", data := .fields #[.int s3.gens.size 0, .str "<genexpr>" (s3.toks + 1), .str (X.env.qual ++ "<genexpr>") (s3.toks + 1 + 1)] }).get? h.objs.size = some { cls := .type "generator", data := .fields #[.int s3.gens.size 0, .str "<genexpr>" (s3.toks + 1), .str (X.env.qual ++ "<genexpr>") (s3.toks + 1 + 1)] } := fun h => Heap.get?_push_size _ rfl
    have hgen : ∀ h : Heap, h.get? h'.objs.size = some { cls := .type "generator", data := .fields #[.int s3.gens.size 0, .str "<genexpr>" (s3.toks + 1), .str (X.env.qual ++ "<genexpr>") (s3.toks + 1 + 1)] } → h.IsGen h'.objs.size s3.gens.size := fun h e => ⟨_, _, _, e, rfl, rfl, rfl⟩
    have hn5 := hn'.push { cls := .type "generator", data := .fields #[.int s3.gens.size 0, .str "<genexpr>" (s3.toks + 1), .str (X.env.qual ++ "<genexpr>") (s3.toks + 1 + 1)] }
    have ego' := ego h'
    have hgd : ∀ v, ({ cls := .type "generator", data := .fields #[.int s3.gens.size 0, .str "<genexpr>" (s3.toks + 1), .str (X.env.qual ++ "<genexpr>") (s3.toks + 1 + 1)] } : Obj).data ≠ .cell v := fun v q => by cases q
    clear ego
    generalize hgo : ({ cls := .type "generator", data := .fields #[.int s3.gens.size 0, .str "<genexpr>" (s3.toks + 1), .str (X.env.qual ++ "<genexpr>") (s3.toks + 1 + 1)] } : Obj) = go at *
    have I3' : Inv X pins σ H3 s3 := I3
    have f3' : ∀ b ∈ fp, FpOk X pins H3 b ∧ b < s3.heap.objs.size := by rw [e3h]; exact f3
    have st3 : tn 0 s3.heap := T.keep _ _ _ st1 fun b hb o e => by rw [e3h]; exact keep3 b o (fpP b hb) e
    have st5 : tn 0 (h'.push go) := T.keep _ _ _ st3 fun b _ o e => kp5 b o e
    have bare5 : AllBare (s3.gens.push (.fresh (.compStart (.GeneratorExp elt [⟨.Name x px, iter, [], 0⟩] scope gpos) 0 (.ref it) .none (genEnv scope (cloFrom X.env.cells scope.names []) s3.heap.objs.size code builtinsNs X.env)))) := AllBare.push I3'.bare rfl
    have hgsz : s3.gens.size < (s3.gens.push (.fresh (.compStart (.GeneratorExp elt [⟨.Name x px, iter, [], 0⟩] scope gpos) 0 (.ref it) .none (genEnv scope (cloFrom X.env.cells scope.names []) s3.heap.objs.size code builtinsNs X.env)))).size := by rw [Array.size_push]; exact Nat.lt_succ_self _
    have hgat : (s3.gens.push (.fresh (.compStart (.GeneratorExp elt [⟨.Name x px, iter, [], 0⟩] scope gpos) 0 (.ref it) .none (genEnv scope (cloFrom X.env.cells scope.names []) s3.heap.objs.size code builtinsNs X.env))))[s3.gens.size]? = some (.fresh (.compStart (.GeneratorExp elt [⟨.Name x px, iter, [], 0⟩] scope gpos) 0 (.ref it) .none (genE X scope s3.heap.objs.size code))) := Array.getElem?_push_size ..
    generalize s3.gens.push (.fresh (.compStart (.GeneratorExp elt [⟨.Name x px, iter, [], 0⟩] scope gpos) 0 (.ref it) .none (genEnv scope (cloFrom X.env.cells scope.names []) s3.heap.objs.size code builtinsNs X.env))) = gens5 at bare5 hgsz hgat ⊢
    generalize h'.push go = h5 at *
    generalize hs5 : ({ s3 with gens := gens5, toks := s3.toks + 1 + 1 + 1, heap := h5 } : Shared) = s5
    have e5h : s5.heap = h5 := by rw [← hs5]
    have e5g : s5.gens = gens5 := by rw [← hs5]
    have e5o : s5.os = s3.os := by rw [← hs5]
    have Ix : Inv (genCx X s3 H3 (genE X scope s3.heap.objs.size code) fp [(h'.objs.size, go)]) [] (L2.wipe σ [ix]) H3 s5 := gen_start hc hN I3' ok f3' e5o (by rw [e5g]; exact bare5) (fun b o e => by rw [e5h]; exact kp5 b o e) (by rw [e5h]; exact hn5) fun p hp => by
      rw [List.mem_singleton.mp hp]
      exact ⟨by rw [e5h]; exact ego', by show _ < h'.objs.size; omega, hgd⟩
    have hpf : ∀ p ∈ [(h'.objs.size, go)], ∀ b ∈ fp, p.1 ≠ b := fun p hp b hb z => by
      rw [List.mem_singleton.mp hp] at z
      have := (f3' b hb).2
      rw [← z] at this
      have this : h'.objs.size < s3.heap.objs.size := this
      omega
    have rk : Room k (genCx X s3 H3 (genE X scope s3.heap.objs.size code) fp [(h'.objs.size, go)]).A :=
      ⟨hr.hd, by have := hr.dp; show X.A.depth + 1 + 3 * k + 5 < _; omega, by have := hr.un; show X.A.units + 1 + 1 + 3 + 16 * k + 200 < _; omega⟩
    have loop := seg_all (E := E) (Q := Q) (gi := s3.gens.size) (ρ := ρ) (iter := iter) (pos := gpos) hN ok (fun b hb => (f3' b hb).2) hpf T sr1 g3 wk (he s3 H3 code fp _ rk)
    have L0 : LI (genCx X s3 H3 (genE X scope s3.heap.objs.size code) fp [(h'.objs.size, go)]) g t E F1 H3 (L2.wipe σ [ix]) fp tn s3.gens.size Q (fun dc => allD (tgN ix) fe (xs.drop 0) (wipeR ρ [ix]) dc) 0 s5 :=
      ⟨H3, F1, dc1, Ix, by rw [e5h]; exact st5, fun b hb => (f3' b hb).1.1, by rw [e5g]; exact hgsz, .refl tab3 (fun b o h => g3.inc b o h), d3, hp3⟩
    have goes : ∀ s'' : Shared, s''.heap = s5.heap → s''.os = s5.os → AllBare s''.gens → s5.gens.size ≤ s''.gens.size →
        GenState.Goes (model X.prog X.w) X.A.in1.in1 (fun n s₀ r s₁ => r = .ok .next ∧ (n = 0 ∧ LE (genCx X s3 H3 (genE X scope s3.heap.objs.size code) fp [(h'.objs.size, go)]) g t E F1 H3 (L2.wipe σ [ix]) s3.gens.size Q true s₁))
          (YL xs.length (fun i => LI (genCx X s3 H3 (genE X scope s3.heap.objs.size code) fp [(h'.objs.size, go)]) g t E F1 H3 (L2.wipe σ [ix]) fp tn s3.gens.size Q (fun dc => allD (tgN ix) fe (xs.drop i) (wipeR ρ [ix]) dc) i) (LE (genCx X s3 H3 (genE X scope s3.heap.objs.size code) fp [(h'.objs.size, go)]) g t E F1 H3 (L2.wipe σ [ix]) s3.gens.size Q false))
          (xs.length - 0) (.fresh (.compStart (.GeneratorExp elt [⟨.Name x px, iter, [], 0⟩] scope gpos) 0 (.ref it) .none (genE X scope s3.heap.objs.size code))) (.send .none) s'' := by
      intro s'' q1 q2 q3 q4
      refine ⟨rfl, ?_⟩
      have lp := loop xs.length 0 s'' s'' rfl (Nat.zero_le _) (L0.same q1 q2 q3 (by rw [e5g] at q4; exact Nat.lt_of_lt_of_le hgsz q4))
      rw [Nat.sub_zero]
      show Seg _ _ _ _ _ s'' _ ((compStart (.GeneratorExp elt [⟨.Name x px, iter, [], 0⟩] scope gpos) 0 (.ref it) .none (genE X scope s3.heap.objs.size code)).onRaise (leaving (genE X scope s3.heap.objs.size code))) [] s''
      unfold compStart
      rw [Sem.onRaise_eq_wrap]
      show Seg _ _ _ _ _ s'' _ ((ask >>= _).wrap _ _ _ _) [] s''
      refine seg_bind_wrap (wpAny_askSetting ?_)
      split
      · exact seg_again rfl lp
      · have slf := T.self ((X.A.in1.in1).over (.compStart (.GeneratorExp elt [⟨.Name x px, iter, [], 0⟩] scope gpos) 0 (.ref it) .none (genE X scope s3.heap.objs.size code)) []) 0 s''
        first
          | exact seg_bind_wrap (wpAny_rule (seg_bind_wrap (wpAny_standAt (seg_bind_wrap (slf _ _ (by rw [q1, e5h]; exact st5) (seg_again rfl lp))))))
          | (refine seg_bind_wrap (wpAny_rule ?_); show Seg _ _ _ _ _ s'' _ ((standAt iter.pos >>= _).wrap _ _ _ _) [] s''; exact seg_bind_wrap (wpAny_standAt (seg_bind_wrap (slf _ _ (by rw [q1, e5h]; exact st5) (seg_again rfl lp)))))
    refine call_function_tree F.kind_all F.plain_all F.entry_all (F.args_all1 _) ?_
    unfold Builtin.«all»
    refine wpAny_bind (m := oneArg "all" _) (wpAny_pure ?_)
    refine wpAny_bind (wpAny_pyIter_gen (hgen _ (by rw [e5h]; exact ego')) ?_)
    refine wpAny_pure ⟨plainId_quiet F.plain_all_loop _, ?_⟩
    refine code_all (X' := genCx X s3 H3 (genE X scope s3.heap.objs.size code) fp [(h'.objs.size, go)]) (A := X.A) (gi := s3.gens.size) hr.hd hr.depth (fun σ' H' s' I' => hgen _ (I'.pin (h'.objs.size, go) (List.mem_append_left _ (List.mem_singleton.mpr rfl))).1) (fun b s' hq => ?_) xs.length 0 s5 rfl (Nat.zero_le _) ⟨L0, _, by rw [e5g]; exact hgat, goes⟩
    obtain ⟨H', F', dc', I6, gr6, d6, hp6⟩ := hq
    have I7 : Inv X pins σ H' s' := I3'.call' (ch := fp) I6.os I6.base I6.hok I6.bare fun b hb => ⟨(f3' b hb).1.2.2.2.1, (f3' b hb).1.2.1, (f3' b hb).1.2.2.2.2.1, (f3' b hb).1.2.2.2.2.2⟩
    exact ⟨.bl b, H', I7, rfl, hp6 (.bl b) F' H' gr6 d6 (R.bl b)⟩
  cases hf : codeAmong gpos ps.toList with
  | none =>
    refine wpAny_genexprCodeX hcode (cd.code hPs ht) (cd.tab hPs) hf fun c' h' tk hx hge hlt hco' _ htab' _ => ?_
    obtain ⟨o1, vs, f1, tf, fl, tg, inF, tx, tt, op, _, _, _, _, _, _, _, _, _, htr, _⟩ := hco'
    exact cont _ h' tk _ hx (Nat.le_trans hge (Nat.le_of_lt hlt)) htab'.2 htr
  | some cv =>
    refine wpAny_genexprCode_hit hcode (cd.code hPs ht) hf ?_
    exact cont cv s2.heap s2.toks #[] (Heap.ExtBut.refl _ _) (Nat.le_refl _) (by rw [Array.append_empty]; exact hPs) (by rw [Array.append_empty]; exact ht)
end
end DL

set_option maxHeartbeats 4000000
namespace DL
open PySem PySem.Spec PyProof.Rows L2
/-! ### a lambda handed to the def that tells what was refused -/
section
variable {X : Cx} {g : Cg} {t : Ct} {E : XK} {pins : List (Addr × Obj)} {σ : L2.St} {H : Hp} {s : Shared}
/-- the lambda's function object is made; the maker's table may have grown, all other tables stay -/
theorem lam_made {c P : Addr} {params : Arguments} {body : Expr} {scope : Scope} {pos : Pos} {E : Value → Shared → Prop} {Q : Value → Shared → Prop} (I : Inv X pins σ H s) (TB : LamX.TabB X.base X.mg c P) (hcode : X.env.code = .ref c)
    (hT : LamX.TabS H P (X.env.qual ++ "<lambda>")) (hdef : defaultsOf params X.env = ([], [])) (hfree : ∀ y ∈ scope.names, y.2 = .free → ∃ c, X.env.cells.lookup y.1 = some c)
    (h : ∀ (f c' : Addr) (pm ctv : Value) (H1 : Hp) (s' : Shared), Inv X pins σ H1 s' → (∀ b o, H b = some o → NT o → H1 b = some o) → (∀ b o, H b = some o → b ≠ P → H1 b = some o) → (∀ b, H1 b = none → H b = none) → (∀ b xs, H1 b = some (.tup xs) → H b = some (.tup xs)) → LamX.TabS H1 P (X.env.qual ++ "<lambda>") →
      s'.heap.get? f = some (PySem.W.kla_obj "<lambda>" (X.env.qual ++ "<lambda>") params body scope (cloFrom X.env.cells scope.names []) pm c' ctv) → H1 f = none → f ∉ frs X.stack → H1 c' = some (LamX.CodeO c' (X.env.qual ++ "<lambda>")) → Q (.ref f) s') :
    wpAny (model X.prog X.w) X.A (eval (.Lambda params body scope pos) X.env) Q E s := by
  obtain ⟨ps, hP, htr, hall⟩ := hT
  have bP := TB.bm.keeps I.bk
  have objP : s.heap.get? P = some { cls := .none, data := .fields ps } := I.hok P _ hP
  have far : ∀ a, s.heap.objs.size ≤ a → a ∉ frs X.stack := fun a ha z => (List.mem_cons.mp (I.stkSub _ z)).elim (fun e => absurd I.lt (by rw [← e]; exact Nat.not_lt.mpr ha)) fun e => I.nofs ha e
  refine PySem.W.kla_eval hdef ?_
  cases hm : codeAmong pos ps.toList with
  | some cv =>
    obtain ⟨c', rfl, hco⟩ := hall pos cv hm
    refine PySem.W.kla_makeFunctionHit (mg := X.mg) (c := c) (P := P) (ps := ps) (closure_ok hfree) I.ok.glob (I.mod.glob.keeps I.bk) hcode (TB.code.keeps I.bk) objP htr hm bP fun ctv h' tk hx hsz => ?_
    refine h h'.objs.size c' ((X.mg "__name__").getD .none) ctv H _ (I.kept (t' := tk) fun b o e => Heap.get?_push_of_some _ (hx b o e)) (fun _ _ e _ => e) (fun _ _ e _ => e) (fun _ e => e) (fun _ _ e => e) ⟨ps, hP, htr, hall⟩ (Heap.get?_push_size _ rfl) (I.hok.fresh hsz) (far _ hsz) hco
  | none =>
    refine PySem.W.kla_makeFunction (mg := X.mg) (c := c) (P := P) (ps := ps) (closure_ok hfree) I.ok.glob (I.mod.glob.keeps I.bk) hcode (TB.code.keeps I.bk) objP htr hm TB.gP bP fun c' ctv h' tk hx hge hlt hrec htb => ?_
    obtain ⟨_, oc, vs, tq, e2, hoc, hdc, hvc⟩ := hrec
    cases e2
    have nC : H c' = none := I.hok.fresh hge
    have nCP : P ≠ c' := ne_of_none hP nC
    have szs : s.heap.objs.size ≤ h'.objs.size := Nat.le_trans hge (Nat.le_of_lt hlt)
    have J := LamX.inv_table (t' := tk) (q := X.env.qual ++ "<lambda>") (more := #[rawInt pos.line, rawInt pos.col, .ref c']) (h' := h'.push (PySem.W.kla_obj "<lambda>" (X.env.qual ++ "<lambda>") params body scope (cloFrom X.env.cells scope.names []) ((X.mg "__name__").getD .none) c' ctv)) I hP (fun b o hb e => Heap.get?_push_of_some _ (hx b o hb e)) (Heap.get?_push_of_some _ htb) hge ⟨oc, vs, tq, Heap.get?_push_of_some _ hoc, hdc, hvc⟩
    have eL : (ps ++ #[rawInt pos.line, rawInt pos.col, Value.ref c']).toList = ps.toList ++ [rawInt pos.line, rawInt pos.col, .ref c'] := Array.toList_append
    have oth : ∀ b o, H b = some o → b ≠ P → upd (upd H P (.tbl (ps ++ #[rawInt pos.line, rawInt pos.col, .ref c']))) c' (LamX.CodeO c' (X.env.qual ++ "<lambda>")) b = some o := fun b o e n => by rw [upd_ne (ne_of_none e nC), upd_ne n]; exact e
    have ntb : ∀ b o, H b = some o → NT o → b ≠ P := fun b o e n z => n ps (Option.some.inj (e.symm.trans (by rw [z]; exact hP)))
    refine h h'.objs.size c' ((X.mg "__name__").getD .none) ctv _ _ J (fun b o e n => oth b o e (ntb b o e n)) oth (fun b e => ?_) (fun b xs e => ?_) ⟨_, by rw [upd_ne nCP, upd_same], by rw [eL]; exact PySem.TriplesOk_snoc _ _ _ _ htr, fun p' cv hcv => ?_⟩ (Heap.get?_push_size _ rfl) ?_ (far _ szs) upd_same
    · by_cases e1 : b = c'
      · rw [e1, upd_same] at e; cases e
      · rw [upd_ne e1] at e
        by_cases e2 : b = P
        · rw [e2, upd_same] at e; cases e
        · rw [upd_ne e2] at e; exact e
    · by_cases e1 : b = c'
      · rw [e1, upd_same] at e
        exact absurd (Option.some.inj e) (fun z => by unfold LamX.CodeO at z; cases z)
      · rw [upd_ne e1] at e
        by_cases e2 : b = P
        · rw [e2, upd_same] at e; cases e
        · rw [upd_ne e2] at e; exact e
    · rw [eL] at hcv
      rcases LamX.among_app _ htr hcv with z | z
      · obtain ⟨c0, e1, e2⟩ := hall p' cv z
        exact ⟨c0, e1, oth _ _ e2 (ntb _ _ e2 LamX.codeO_ne)⟩
      · exact ⟨c', z, upd_same⟩
    · rw [upd_ne (Nat.ne_of_gt hlt), upd_ne (Nat.ne_of_gt (Nat.lt_of_lt_of_le (Heap.lt_size objP) szs))]
      exact I.hok.fresh szs
/-! ### e.name of the exception that the suite holds -/
def tByName (C : Addr) (a : Addr) (cls : Value) (d : Option Addr) (te : TE) : TE := fun σ H Q => te σ H fun x H1 => x = .ref a ∧ cls = .ref C ∧ ∃ (dd : Addr) (v : V), d = some dd ∧ H1 dd = some (.xd [(("name" : Str), v)]) ∧ Q v H1
theorem pe_byName {C fI a : Addr} {oe : Obj} {cls : Value} {d : Option Addr} {pn : List (Addr × Obj)} {e : Expr} {te : TE} {pos : Pos} (Tx : PySem.BadX.BadTxt X.prog X.K X.mg C fI) (hz : Zc cls d oe) (hf : ∃ vs, oe.data = .fields vs) (he : PE (X.suite a ((a, oe) :: pn)) e te)
    (hb : attributeBase e "name" X.env (eval e X.env) = eval e X.env := by rfl) : PE (X.suite a ((a, oe) :: pn)) (.Attribute e "name" pos) (tByName C a cls d te) := by
  refine ⟨fun pins s σ H Q I h => attr_of hb (thn (he.run pins s σ H _ I h) fun u s1 hh => ?_)⟩
  obtain ⟨x, H1, I1, rx, rfl, rfl, dd, v, rfl, ea, q⟩ := hh
  obtain rfl : u = Value.ref a := rx
  have ha := (I1.pin (a, oe) (List.mem_append_left _ List.mem_cons_self)).1
  obtain ⟨vs, hd⟩ := hf
  obtain ⟨mA, hns, hr⟩ := (show ObjOk X.prog X.w H1 s1.heap dd (.xd [(("name" : Str), v)]) from I1.hok dd _ ea)
  obtain ⟨od, ho, hl⟩ := lookIn_ns hns
  have lk : List.lookup ("name" : Str) [(("name" : Str), v)] = some v := by simp [List.lookup]
  obtain ⟨u, hu, ru⟩ := RelO.some_of (v := v) (o := mA "name") (by rw [← lk]; exact hr "name")
  have J : PySem.W.InstAt s1.heap a oe C (some od) := ⟨ha, hz.1, by unfold PySem.W.notCls; rw [hd] <;> rfl, by rw [hz.2]; exact ho⟩
  exact HandSPX.exc_get I1.kIn J Tx.ga Tx.gg Tx.exC (PySem.W.findObj_own Tx.hdC Tx.noN rfl (by rw [hl, hu])) (handed_of ru) ⟨v, H1, I1.tok _, ru, q⟩
/-! ### the def that tells -/
def tellB (pe pa pc ph pn pr pt p1 p2 p3 p4 p5 p6 : Pos) (j : Nat) : List Stmt :=
  [.Try [.Expr (.Call (.Name "call" p1) [] [] p2) p3] [.ExceptHandler (some (.Name "BadArgument" p4)) (some "e") [.Return (some (.Attribute (.Name "e" pe) "name" pa)) pr] ph] [] [] pt, .Return (some (.Constant (.str "") j p5)) p6]
def tellS : Scope := { kind := .function, names := [("call", .local), ("e", .local), ("BadArgument", .globalImplicit)], isGenerator := false, isCoroutine := false, more := [] }
/-- the state that the lambda sees -/
def seen (ρ : Rho) : Rho := ρ.map fun o => match o with
  | some (.p d) => some (.p d)
  | some (.fd d) => some (.fd d)
  | _ => none
def eTold (fb : SE) : SE := fun ρ dc => match fb (seen ρ) dc with
  | .ok (_, dc') => .ok (.p (.str ""), dc)
  | .exn n => .ok (.p (.str n), dc)
  | .stuck => .stuck
theorem seen_at {ρ : Rho} {i : Nat} {x : Val} (h : (seen ρ)[i]? = some (some x)) : ρ[i]? = some (some x) ∧ x.own = false ∧ x ≠ .dice ∧ ∀ ns, x ≠ .scr ns := by
  unfold seen at h
  rw [List.getElem?_map] at h
  cases q : ρ[i]? with
  | none => rw [q] at h; cases h
  | some o =>
    rw [q] at h
    cases o with
    | none => cases h
    | some v =>
      cases v with
      | p d => cases h; exact ⟨rfl, rfl, by simp, by simp⟩
      | fd d => cases h; exact ⟨rfl, rfl, by simp, by simp⟩
      | ol _ => cases h
      | od _ => cases h
      | dice => cases h
      | scr _ => cases h
theorem SR.seen {ρ : Rho} {dc : Dc} {F H : Hp} {σ : L2.St} (s : SR g t ρ dc F σ H) : SR g ⟨F, H, none⟩ (DL.seen ρ) dc F σ H where
  slot := fun i x h => by
    obtain ⟨h1, h2, h3⟩ := seen_at h
    obtain ⟨v, e1, e2⟩ := s.slot i x h1
    refine ⟨v, e1, ?_⟩
    cases x with
    | p d => exact e2
    | fd d => exact e2
    | ol _ => cases h2
    | od _ => cases h2
    | dice => exact absurd rfl h3.1
    | scr ns => exact absurd rfl (h3.2 ns)
  dist := fun i j x y v _ e1 _ o1 _ _ => by
    have := (seen_at e1).2.1
    rw [o1] at this
    cases this
  gr := .refl s.tab s.inc
  dice := fun a ha => by cases ha
  len := by unfold DL.seen; rw [List.length_map]; exact s.len
  nt := s.nt
  tup := s.tup

/-- the frozen heap behind an exception: the new tuples -/
theorem Gr.ofX {ρ : Rho} {dc : Dc} {F H H' : Hp} {σ : L2.St} (s : SR g t ρ dc F σ H) (e : GrX g.T none H H') : ∃ F', Gr g.T none F H F' H' := by
  have key : ∀ b o, (match F b with | some o => some o | none => (match H b with | some _ => none | none => (match H' b with | some (.tup xs) => some (.tup xs) | _ => none)) : Option HO) = some o → F b = some o ∨ (F b = none ∧ H b = none ∧ H' b = some o ∧ ∃ xs, o = .tup xs) := by
    intro b o h
    cases q : F b with
    | some u => rw [q] at h; exact .inl h
    | none =>
      rw [q] at h
      cases q2 : H b with
      | some u => simp only [q2] at h; cases h
      | none =>
        simp only [q2] at h
        split at h
        · rename_i xs q3
          cases h
          exact .inr ⟨rfl, rfl, q3, xs, rfl⟩
        · cases h
  refine ⟨fun b => match F b with | some o => some o | none => (match H b with | some _ => none | none => (match H' b with | some (.tup xs) => some (.tup xs) | _ => none)), e, fun b o h => by simp only [h], fun b o h => ?_, fun b o h => ?_, fun b xs h => ?_⟩
  · rcases key b o h with z | ⟨_, _, z, _⟩
    · exact e.ext b o (s.inc b o z) (fun ps w => s.nt b ps (by rw [z, w])) (by simp)
    · exact z
  · rcases key b o h with z | ⟨_, z, _, xs, w⟩
    · exact .inl z
    · exact .inr ⟨z, fun ps y => by rw [w] at y; cases y⟩
  · cases q : H b with
    | none =>
      left
      have : F b = none := by
        cases q2 : F b with
        | none => rfl
        | some o => have := s.inc b o q2; rw [q] at this; cases this
      simp only [this, q, h]
    | some o =>
      right
      by_cases n : NT o
      · have := e.ext b o q n (by simp)
        rw [h] at this
        exact this.symm ▸ rfl
      · exfalso
        apply n
        intro ps w
        rw [w] at q
        obtain ⟨p1, h1⟩ := e.tbl b ps q
        rw [h] at h1
        cases h1
theorem takes_len {X : Cx} {W : WX} (tk : Takes X W) : Takes X (fun cls d σ H => σ.length = X.N.length → W cls d σ H) := fun u s' ⟨a, B, sI, pins, σ, H, cls, d, e, I, nb, up, sky, na, os, ag, w⟩ =>
  tk u s' ⟨a, B, sI, pins, σ, H, cls, d, e, I, nb, up, sky, na, os, ag, w I.len⟩
theorem de_refused {c P gf fI : Addr} {k : Nat} {pg : Arguments} {kV doc pm cdv ct oc : Value} {an od : Option Addr} {osl : Array (Option Value)} {body : Expr} {params : Arguments} {scope : Scope} {fb : SE} {p lpos pos pe pa pc ph pn pr pt p1 p2 p3 p4 p5 p6 : Pos} {j : Nat}
    (Tx : PySem.BadX.BadTxt X.prog X.K X.mg g.C fI) (hr : Room (k + 2) X.A) (hm : X.mg "_law_refused" = some (.ref gf)) (hk : PySem.W.keepIn X.K (.ref gf) = true)
    (lk : X.K.lookup gf = some ⟨oc, od, .func (PySem.W.fnOf "_law_refused" "_law_refused" pg (tellB pe pa pc ph pn pr pt p1 p2 p3 p4 p5 p6 j) tellS .none kV doc pm an cdv ct), osl⟩) (hcg : PySem.W.codeIn X.K cdv "_law_refused" = true)
    (hb : L2.Binds X.K (PySem.W.fnOf "_law_refused" "_law_refused" pg (tellB pe pa pc ph pn pr pt p1 p2 p3 p4 p5 p6 j) tellS .none kV doc pm an cdv ct) ["call"] [])
    (TB : LamX.TabB X.base X.mg c P) (hcode : X.env.code = .ref c) (hT : ((P, some (X.env.qual ++ "<lambda>")) : Addr × Option Str) ∈ g.T) (hu : ∀ p ∈ g.T, p.1 = P → p.2 = some (X.env.qual ++ "<lambda>"))
    (L : LamX.LamS X.env.scope scope)
    (he : ∀ (A : Around) (outer : List Env) (s : Shared) (H : Hp) (E' : XK) (f c' : Addr) (t' : Ct), Room k (A.deeper (LamX.lamEnv X scope s.heap.objs.size f c')) → DE (LamX.lamCx X A outer s H E' scope f c') g t' E' body fb)
    (hg : Gl X "_law_refused" := by rfl) (hdef : defaultsOf params X.env = ([], []) := by rfl)
    (hbind : ∀ (q : Str) (cl : List (Str × Addr)) (pm cv ctv : Value), bindArgs (PySem.W.kla_fn "<lambda>" q params body scope cl pm cv ctv) ⟨[], []⟩ = pure [] := by intros; rfl) :
    DE X g t E (.Call (.Name "_law_refused" p) [.Lambda params body scope lpos] [] pos) (eTold fb) := by
  refine ⟨semT g t E (fun F H v x => VR g t F H v x) (eTold fb), ⟨fun pins s σ H Q I ⟨ρ, dc, Fz, sr, hp⟩ => ?_⟩, semT_ev⟩
  refine wpAny_Call_Name_kw (ld_glob I hg hm ?_ (by decide))
  refine PySem.W.callWith_K (h₀ := X.base) I.ok.mod.kin hk ?_ (by rfl) (by rfl)
  show wpAny _ _ (spliced ((false, eval (.Lambda params body scope lpos) X.env) :: backTo pos (starEach [] X.env))) _ _ s
  refine Calls.spliced_cons (lam_made I TB hcode (sr.tab _ hT) hdef (L.has I.ok) fun f c' pm' ctv H1 s' I1 eN eO eD eU T1 hf hfn hfr hco => ?_)
  refine Calls.spliced_nil ⟨I1.kIn, ?_⟩
  -- the state behind the making
  have g1 : Gr g.T none Fz H Fz H1 := by
    refine ⟨⟨fun b o h n _ => eN b o h n, eD, fun q hq => ?_, fun b ps h => ?_⟩, fun _ _ h => h, fun b o h => ?_, fun _ _ h => .inl h, fun b xs h => .inr (eU b xs h)⟩
    · by_cases hqP : q.1 = P
      · obtain ⟨qa, qb⟩ := q
        cases (show qb = _ from hu _ hq hqP)
        cases (show qa = P from hqP)
        exact T1
      · have z := sr.tab q hq
        obtain ⟨qa, qb⟩ := q
        cases qb with
        | some nm =>
          obtain ⟨ps', a1, a2, a3⟩ := z
          refine ⟨ps', eO _ _ a1 hqP, a2, fun pos cv hcv => ?_⟩
          obtain ⟨c0, b1, b2⟩ := a3 pos cv hcv
          exact ⟨c0, b1, eN _ _ b2 (fun ps z => LamX.codeO_ne ps z)⟩
        | none =>
          obtain ⟨ps', a1, a2⟩ := z
          exact ⟨ps', eO _ _ a1 hqP, a2⟩
    · by_cases hb : b = P
      · obtain ⟨p1, h1, _⟩ := T1
        exact ⟨p1, by rw [hb]; exact h1⟩
      · exact ⟨ps, eO b _ h hb⟩
    · refine eO b o (sr.inc b o h) fun z => ?_
      have := sr.ntT _ hT
      rw [z] at h
      rw [show Fz P = none from this] at h
      cases h
  have sr1 : SR g t ρ dc Fz σ H1 := sr.gr' g1.weak (sr.dice.gr g1)
  have s0 := sr1.seen
  have Sg : FnScope ["call", "e"] ["call"] tellS := ⟨rfl, rfl, rfl, by decide +kernel, rfl, by decide +kernel, by decide +kernel⟩
  have rc : codeAny (model X.prog X.w) X.A (.call (.ref gf) ⟨[.ref f], []⟩) (CR (L2.CX X.prog X.w) X.stack X.prog X.w H1 s' Q L2.E0) s' := by
    refine LamX.run_ofS (N := ["call", "e"]) (ps := ["call"]) (us := [.ref f]) (vs := [.ref f]) lk hcg Sg hr I1.env0 (hb s' [.ref f] I1.kIn rfl) (.cons rfl .nil) rfl fun hr' => ?_
    refine ⟨_, pss_cons (ps_try_as (X := cxOf (L2.CX X.prog X.w) X.prog X.w X.K X.mg X.base ["call", "e"] "_law_refused" tellS gf cdv X.A X.stack s' H1 L2.E0) (i := 1) (c := .ref g.C)
      (tb := fun W D σZ HZ => ∃ Ech : XK, (∀ cls d σ' H', σ'.length = 2 → Ech cls d H' → W cls d σ' H') ∧ σZ[0]? = some (some (.ref f)) ∧ HZ c' = some (LamX.CodeO c' (X.env.qual ++ "<lambda>")) ∧
        semT g ⟨Fz, H1, none⟩ Ech (fun F H v x => VR g ⟨Fz, H1, none⟩ F H v x) fb σ HZ (fun _ H' => D.nx σZ H'))
      (ts := fun a cls d => tRet (tByName g.C a cls d (tVar 1))) (Wout := fun _ _ _ _ => False) rfl rfl Sg.nd rfl rfl ⟨rfl, by decide, .inl Tx.gC⟩ L2.takes0 (fun W pn xe tk _ => ?_)
      (fun a oe cls d pn hz hf => pss_one (ps_ret (pe_byName (X := cxOf (L2.CX X.prog X.w) X.prog X.w X.K X.mg X.base ["call", "e"] "_law_refused" tellS gf cdv X.A X.stack s' H1 L2.E0) Tx hz hf (pe_var rfl (.inl rfl) (by decide) (by decide)))))) (pss_one (ps_ret pe_str)), ?_⟩
    · refine pss_one ⟨fun pins s2 σ2 H2 D I2 h' => ?_⟩
      obtain ⟨Ech, hW, h1, h2, h3⟩ := h'
      have hpe := LamX.pe_act (i := 0) (E := Ech) (W := fun cls d σ H => σ.length = 2 → W cls d σ H) (p1 := p1) (p2 := p2) I1 L hf hfn hfr (hbind _ _ _ _ _) (takes_len tk) (fun cls d σ' H' h hl => hW cls d σ' H' hl h) hr' (fun A outer s H hr2 => (he A outer s H Ech f c' ⟨Fz, H1, none⟩ hr2).pe) (by rfl) (.inl rfl) (by decide) (by decide)
      exact (ps_expr hpe (by rfl)).run pins s2 σ2 H2 D I2 ⟨h1, h2, h3⟩
    · refine ⟨fun cls d H' => ∃ (n : Str) (dx : Addr), cls = .ref g.C ∧ d = some dx ∧ H' dx = some (.xd [(("name" : Str), .str n)]) ∧ Q (.str n) H', fun cls d σ' H' hl ⟨n, dx, e1, e2, e3, e4⟩ => ?_, rfl, hco, DL.seen ρ, dc, Fz, s0, ?_⟩
      · subst e1
        subst e2
        refine ⟨true, Tx.te, fun _ a ha => ?_, fun h => by cases h⟩
        refine ⟨_, ?_, rfl, rfl, dx, _, rfl, e3, e4⟩
        exact List.getElem?_set_self (by rw [hl]; decide)
      · unfold eTold at hp
        cases q : fb (DL.seen ρ) dc with
        | ok a =>
          obtain ⟨y, dc'⟩ := a
          rw [q] at hp
          intro x F' H' gr d r
          exact hp (.str "") F' H' (g1.weak.trans gr.weak) (sr1.dice.gr gr) (R.str _)
        | exn n =>
          rw [q] at hp
          intro dx H' gr h1 h2
          refine ⟨n, dx, rfl, rfl, h2, ?_⟩
          obtain ⟨F2, g2⟩ := Gr.ofX sr1 gr
          exact hp (.str n) F2 H' (g1.weak.trans g2.weak) (sr1.dice.gr g2) (R.str _)
        | stuck => rw [q] at hp; exact hp.elim
  refine wpAny_call (codeAny_mono rc fun r s2 hq => ?_)
  cases r with
  | error e =>
    obtain ⟨_, _, _, _, _, _, _, _, _, _, _, _, z⟩ := hq
    exact z.elim
  | ok fl =>
    cases fl with
    | ret u => exact I1.after hq
    | next => exact False.elim hq
    | brk => exact False.elim hq
    | cont => exact False.elim hq
end
end DL

set_option maxHeartbeats 4000000
namespace DL
open PySem PySem.Spec PyProof.Rows L2
section
variable {X : Cx} {g : Cg} {t : Ct} {E : XK} {pos : Pos} {k : Nat}
/-! ### a dict of one's own is handed out: locked from here on -/
def sRetD (i : Nat) : SS := fun ρ dc => match ρ[i]? with
  | some (some (.od kvs)) => .ok (.rt (.fd kvs), ρ, dc)
  | _ => .stuck
theorem ds_retD {i : Nat} {x : Str} {p : Pos} (hN : X.N[i]? = some x := by rfl) (hv : Vis X.env.scope x := by first | exact Or.inl rfl | exact Or.inr (Or.inl rfl) | exact Or.inr (Or.inr rfl)) (hd : (x == ("__debug__" : Str)) = false := by decide)
    (hcd : (x == ("__classdict__" : Str)) = false := by decide) : DS X g t E (.Return (some (.Name x p)) pos) (sRetD i) := by
  refine ⟨fun D σ H => ∃ d u, σ[i]? = some (some (.ref d)) ∧ H d = some u ∧ Mut (some u) ∧ ∀ od, D.rt (.ref d) (upd H d (.frz od u)), ⟨fun pins s σ H D I h => ?_⟩, fun ρ dc F σ H D s hp => ?_⟩
  · obtain ⟨d, u, h1, h2, h3, h4⟩ := h
    refine wpAny_Return_some (thn ((pe_var (pos := p) (i := i) hN hv hd hcd).run pins s σ H (fun v H1 => v = .ref d ∧ H1 = H) I ⟨.ref d, h1, rfl, rfl⟩) fun v s1 ⟨y, H1, I1, r1, e1, e2⟩ => ?_)
    subst e1
    subst e2
    obtain ⟨od, J⟩ := I1.lock h2 h3
    exact ⟨.ref d, σ, _, J, r1, h4 od⟩
  · unfold sRetD at hp
    split at hp
    · rename_i kvs q
      obtain ⟨v, hv', a, rfl, hm, hH⟩ := s.slot i _ q
      refine ⟨a, _, hv', hH, by first | exact trivial | (show Mut (some (.dT _)); trivial), fun od => ?_⟩
      have up : ∀ b o, F b = some o → upd F a (.frz od (.dT (kT kvs))) b = some o := fun b o h => by rw [upd_ne (ne_of_none h hm.1)]; exact h
      have nta : NT (.frz od (.dT (kT kvs))) := fun _ z => by cases z
      have g1 := s.gr.wrote (o' := .frz od (.dT (kT kvs))) hm.1 (.inl hm.2.1) hH dT_nt dT_nc
      refine hp (.ref a) (upd F a (.frz od (.dT (kT kvs)))) _ ⟨g1.toGrX, fun b o h => up b o (g1.sub b o h), fun b o h => ?_, fun b o h => ?_, fun b xs h => (g1.tups b xs h).imp (up b _) id⟩ (fun b hb => ?_) ⟨a, od, rfl, upd_same⟩
      · by_cases hb : b = a
        · rw [hb, upd_same] at h ⊢; exact h
        · rw [upd_ne hb] at h ⊢; exact s.inc b o h
      · by_cases hb : b = a
        · rw [hb, upd_same] at h
          cases h
          rw [hb]
          exact .inr ⟨hm.2.1, nta⟩
        · rw [upd_ne hb] at h; exact g1.new b o h
      · obtain ⟨z1, z2, z3⟩ := s.dice b hb
        have : b ≠ a := fun z => hm.2.2 (by rw [hb, z])
        exact ⟨by rw [upd_ne this]; exact z1, z2, by rw [upd_ne this]; exact z3⟩
    · exact hp.elim
/-! ### the script -/
theorem scr_at {ρ : Rho} {dc : Dc} {F H : Hp} {σ : L2.St} {i : Nat} {ns : List Int} (hK : g.K = X.K) (s : SR g t ρ dc F σ H) (q : ρ[i]? = some (some (.scr ns))) : ∃ a, σ[i]? = some (some (.ref a)) ∧ SqL X.K H a (ns.map V.int) := by
  obtain ⟨v, hv, a, rfl, h1, h2⟩ := s.slot i _ q
  rw [hK] at h1
  exact ⟨a, hv, sql_gr s.gr.toGrX h1 h2⟩
def eLenS (i : Nat) : SE := fun ρ dc => match ρ[i]? with
  | some (some (.scr ns)) => .ok (.p (.int ns.length), dc)
  | _ => .stuck
theorem de_lenS {i : Nat} {x : Str} {p p1 : Pos} (hK : g.K = X.K) (hm : X.mg "len" = none) (hN : X.N[i]? = some x := by rfl) (hv : Vis X.env.scope x := by first | exact Or.inl rfl | exact Or.inr (Or.inl rfl) | exact Or.inr (Or.inr rfl)) (hd : (x == ("__debug__" : Str)) = false := by decide)
    (hcd : (x == ("__classdict__" : Str)) = false := by decide) (hg : Gl X "len" := by rfl) (hs : starEach [.Name x p1] X.env = (false, eval (.Name x p1) X.env) :: starEach [] X.env := by rfl) : DE X g t E (.Call (.Name "len" p) [.Name x p1] [] pos) (eLenS i) := by
  refine ⟨_, pe_callB call_len hg hm (by decide +kernel) (pa_cons (pe_var hN hv hd hcd) pa_nil hs) (by decide) (by decide) hs (by rfl), fun ρ dc F σ H Q s hp => ?_⟩
  unfold eLenS at hp
  split at hp
  · rename_i ns q
    obtain ⟨a, h1, h2⟩ := scr_at hK s q
    refine ⟨_, h1, _, ns.length, rfl, .inl ⟨_, h2, by rw [List.length_map]⟩, PostG.fin s hp s.id (R.int _)⟩
  · exact hp.elim
def eIxS (i : Nat) (f : SE) : SE := fun ρ dc => match ρ[i]? with
  | some (some (.scr ns)) => SM.bind f (fun y => match y with
    | .p (.int j) => SM.opt ((atI ns j).map fun n => .p (.int n))
    | _ => fun _ _ => .stuck) ρ dc
  | _ => .stuck
theorem atI_map {α β : Type} (f : α → β) (l : List α) (i : Int) : atI (l.map f) i = (atI l i).map f := by
  unfold atI
  rw [List.length_map]
  cases ixN l.length i with
  | none => rfl
  | some j => exact List.getElem?_map ..
theorem de_ixS {i : Nat} {x : Str} {p1 : Pos} {b : Expr} {fb : SE} (hK : g.K = X.K) (hb : DE X g t E b fb) (hs : PlainIx b := by exact fun _ _ => rfl) (hN : X.N[i]? = some x := by rfl) (hv : Vis X.env.scope x := by first | exact Or.inl rfl | exact Or.inr (Or.inl rfl) | exact Or.inr (Or.inr rfl)) (hd : (x == ("__debug__" : Str)) = false := by decide)
    (hcd : (x == ("__classdict__" : Str)) = false := by decide) : DE X g t E (.Subscript (.Name x p1) b pos) (eIxS i fb) := by
  obtain ⟨tb, pb, eb⟩ := hb
  refine ⟨_, pe_ix ix_list (pe_var hN hv hd hcd) pb hs, fun ρ dc F σ H Q s hp => ?_⟩
  unfold eIxS at hp
  split at hp
  · rename_i ns q
    obtain ⟨a, h1, h2⟩ := scr_at hK s q
    refine ⟨_, h1, ?_⟩
    refine eb.bind s hp fun y yb dc2 F2 H2 g2 s2 r2 hp2 => ?_
    split at hp2
    · rename_i j
      obtain ⟨z, hz, hp3⟩ := hp2.opt
      cases e : atI ns j with
      | none => rw [e] at hz; cases hz
      | some n =>
        rw [e] at hz
        cases hz
        obtain rfl := vr_int r2
        obtain ⟨a', h1', h2'⟩ := scr_at hK s2 q
        rw [h1] at h1'
        cases h1'
        exact ⟨a, _, j, .int n, rfl, rfl, h2', by rw [atI_map, e]; rfl, PostG.fin s2 hp3 s2.id (R.int n)⟩
    · exact hp2.elim
  · exact hp.elim
def eCutS (i : Nat) (hi : Int) : SE := fun ρ dc => match ρ[i]? with
  | some (some (.scr ns)) => .ok (.p (.list (cutD (ns.map .int) none (some hi))), dc)
  | _ => .stuck
theorem de_cutS {i : Nat} {x : Str} {kk : Int} {j : Nat} {p1 p2 p3 : Pos} (hK : g.K = X.K) (hN : X.N[i]? = some x := by rfl) (hv : Vis X.env.scope x := by first | exact Or.inl rfl | exact Or.inr (Or.inl rfl) | exact Or.inr (Or.inr rfl)) (hd : (x == ("__debug__" : Str)) = false := by decide)
    (hcd : (x == ("__classdict__" : Str)) = false := by decide) : DE X g t E (.Subscript (.Name x p1) (.Slice none (some (.Constant (.int kk) j p2)) none p3) pos) (eCutS i kk) := by
  refine ⟨_, pe_slice (r := rSlL X.K) sl_list (pe_var hN hv hd hcd) po_none (po_some pe_int), fun ρ dc F σ H Q s hp => ?_⟩
  unfold eCutS at hp
  split at hp
  · rename_i ns q
    obtain ⟨a, h1, h2⟩ := scr_at hK s q
    refine ⟨_, h1, kk, rfl, a, _, rfl, h2, fun p hp' => PostG.fin s hp (Gr.frozen s.tab s.inc hp') ?_⟩
    exact .lst upd_same (ra_cut (ints_ra ns) none (some kk))
  · exact hp.elim
/-! ### a locked dict is walked: its keys -/
def keysD (kvs : PD) : List PyData := kvs.map fun q => .tuple [.int q.1.1, .int q.1.2]
def itD (f : SE) : SM (List PyData) := SM.bind f fun x => match x with
  | .fd kvs => SM.ret (keysD kvs)
  | _ => fun _ _ => .stuck
theorem kP_map (q : Int × Int) : (kP q).map kV = [.int q.1, .int q.2] := rfl
theorem dic_dict {tg e : Expr} {fe : SE} (h : DE X g t E e fe) : DIc X g t E tg e (itD fe) := by
  obtain ⟨ta, pa, ea⟩ := h
  refine ⟨_, pi_keys pa, fun ρ dc F σ H Q s hp => ?_⟩
  refine ea.bind s hp fun x xa dc1 F1 H1 g1 s1 r1 hp1 => ?_
  split at hp1
  · rename_i kvs
    obtain ⟨d, o, rfl, hd⟩ := r1
    refine ⟨d, o, rfl, .inr ⟨kT kvs, s1.inc _ _ hd, PostG.fin s1 hp1 s1.id fun F2 H2 e i j => ?_⟩⟩
    have hl : (keysD kvs).length = (kT kvs).length := by unfold keysD kT; rw [List.length_map, List.length_map]
    have hd2 : H2 d = some (.frz o (.dT (kT kvs))) := i _ _ (e.sub _ _ hd)
    refine ⟨fun dd hdd => ?_, fun hj => ⟨hd2, by rw [← hl]; exact hj⟩⟩
    have hj : j < (keysD kvs).length := (List.getElem?_eq_some_iff.mp hdd).1
    refine ⟨⟨hd2, by rw [← hl]; exact hj⟩, fun y H' hy => ?_⟩
    obtain ⟨rfl, kk, v, q, hk, rfl, hq⟩ := hy
    refine ⟨rfl, ?_⟩
    unfold kT at hk
    unfold keysD at hdd
    rw [List.getElem?_map] at hk hdd
    cases z : kvs[j]? with
    | none => rw [z] at hdd; cases hdd
    | some w =>
      rw [z] at hk hdd
      cases hdd
      have e1 : ([.inl w.1.1, .inl w.1.2], w.2) = (kk, v) := Option.some.inj hk
      obtain ⟨rfl, rfl⟩ := Prod.mk.inj e1
      have hq2 : H' q = some (.tup [.int w.1.1, .int w.1.2]) := hq
      refine .tup ?_ (ints_ra [w.1.1, w.1.2])
      rcases e.tups q _ hq2 with z2 | z2
      · exact z2
      · exact e.sub _ _ (s1.tup q _ z2)
  · exact hp1.elim
end
end DL

set_option maxHeartbeats 4000000
namespace DL
open PySem PySem.Spec PyProof.Rows L2
section
variable {X : Cx} {g : Cg} {t : Ct} {E : XK} {pos : Pos} {k : Nat}
/-! ### sorted: rows of data -/
def rowOk (d : PyData) : Bool := match d with
  | .tuple (_ :: _) => decide (d.depth ≤ 40)
  | _ => false
def rowsOk (ds : List PyData) : Bool := ds.all fun d => rowOk d && ds.all fun d' => PySem.W.alike d d'
def sortD (ds : List PyData) : List PyData := ds.mergeSort (PySem.W.dataLe false id)
theorem rowsOk_al {ds : List PyData} (h : rowsOk ds = true) : PySem.W.AllAlike ds := by
  intro d hd d' hd'
  unfold rowsOk at h
  have := List.all_eq_true.mp h d hd
  rw [Bool.and_eq_true] at this
  exact List.all_eq_true.mp this.2 d' hd'
theorem rowsOk_so {ds : List PyData} (h : rowsOk ds = true) : PySem.W.Sortable ds := .inl fun d hd => by
  unfold rowsOk at h
  have := List.all_eq_true.mp h d hd
  rw [Bool.and_eq_true] at this
  have := this.1
  unfold rowOk at this
  split at this
  · exact ⟨_, _, rfl⟩
  · cases this
theorem rowsOk_dp {ds : List PyData} (h : rowsOk ds = true) : ∀ d ∈ ds, d.depth ≤ 40 := fun d hd => by
  unfold rowsOk at h
  have := List.all_eq_true.mp h d hd
  rw [Bool.and_eq_true] at this
  have := this.1
  unfold rowOk at this
  split at this
  · exact of_decide_eq_true this
  · cases this
/-- the rows with their values -/
abbrev VD := V × PyData
theorem sort_pairs (bs : List VD) : (bs.mergeSort (PySem.W.dataLe false (·.2))).map (·.2) = sortD (bs.map (·.2)) := by
  unfold sortD
  exact List.map_mergeSort fun a _ b _ => rfl
theorem each_out {bs : List VD} : ∀ {us : List Value}, PySem.W.EachIs (fun u b => RelV b.1 u) us bs → Vals (bs.map (·.1)) us := by
  induction bs with
  | nil => intro us h; cases h; exact .nil
  | cons b bs ih => intro us h; cases h with | cons h1 h2 => exact .cons h1 (ih h2)
theorem out_each {bs : List VD} : ∀ {us : List Value}, Vals (bs.map (·.1)) us → PySem.W.EachIs (fun u b => RelV b.1 u) us bs := by
  induction bs with
  | nil => intro us h; cases h; exact .nil
  | cons b bs ih => intro us h; cases h with | cons h1 h2 => exact .cons h1 (ih h2)
theorem each_reads {pins : List (Addr × Obj)} {σ : L2.St} {H : Hp} {s : Shared} (I : Inv X pins σ H s) {bs : List VD} (hd : ∀ b ∈ bs, Dp X.K H b.1 b.2) : ∀ {us : List Value}, Vals (bs.map (·.1)) us → PySem.W.EachIs (fun v b => ∃ as, Reads s.heap v b.2 as) us bs := by
  induction bs with
  | nil => intro us h; cases h; exact .nil
  | cons b bs ih =>
    intro us h
    cases h with
    | cons h1 h2 => exact .cons (Dp.reads I b.2 b.1 _ (hd b List.mem_cons_self) h1) (ih (fun c hc => hd c (List.mem_cons_of_mem _ hc)) h2)
mutual
theorem reads_lt {h : Heap} {v : Value} {d : PyData} {as : List Addr} (r : Reads h v d as) : ∀ a ∈ as, a < h.objs.size := fun a ha => by
  match r, ha with
  | .list h1 _ _ h4, ha =>
    rcases List.mem_cons.mp ha with rfl | ha
    · exact Heap.lt_size h1
    · exact readsAll_lt h4 a ha
  | .tuple _ _ _ h4, ha => exact readsAll_lt h4 a ha
  | .dict h1 _ _ h4 h5, ha =>
    rcases List.mem_append.mp ha with ha | ha
    · rcases List.mem_cons.mp ha with rfl | ha
      · exact Heap.lt_size h1
      · exact readsAll_lt h4 a ha
    · exact readsAll_lt h5 a ha
theorem readsAll_lt {h : Heap} {vs : List Value} {ds : List PyData} {as : List Addr} (r : ReadsAll h vs ds as) : ∀ a ∈ as, a < h.objs.size := fun a ha => by
  match r, ha with
  | .cons h1 h2, ha =>
    rcases List.mem_append.mp ha with ha | ha
    · exact reads_lt h1 a ha
    · exact readsAll_lt h2 a ha
end
/-- behind sorted(..): the new list -/
def SortedPost (H : Hp) (bs : List VD) (Q : VK) : Prop := ∀ p, H p = none → Q (.ref p) (upd H p (.lst ((bs.mergeSort (PySem.W.dataLe false (·.2))).map (·.1))))
def rSortL (K : PySem.W.Frag) : List V → Hp → VK → Prop := fun xs H Q => ∃ (l : Addr) (bs : List VD), xs = [.ref l] ∧ SqL K H l (bs.map (·.1)) ∧ (∀ b ∈ bs, Dp K H b.1 b.2) ∧ rowsOk (bs.map (·.2)) = true ∧ SortedPost H bs Q
theorem cr_sortL (hr : Room k X.A) : CallR X (.builtin "sorted") (rSortL X.K) := by
  intro pins s σ H xs us Q I r h
  obtain ⟨l, bs, rfl, hl, hd, ok, q⟩ := h
  rw [Vals.ref1 r]
  obtain ⟨its, rv, pl, hz⟩ := I.list hl
  rw [List.length_map] at hz
  have hn : H (s.heap.objs.size + 1) = none := I.hok.fresh (Nat.le_succ _)
  refine PySem.W.sorted_data (R := fun u b => RelV b.1 u) (enc := fun b : VD => b.2) pl.isList (out_each rv) (each_reads I hd rv) (rowsOk_al ok) (rowsOk_so ok) hz (fun b hb => ?_) fun out ho eo => ?_
  · have := rowsOk_dp ok b.2 (List.mem_map_of_mem hb)
    have := hr.un
    omega
  · have ev := each_out eo
    obtain ⟨c, hc⟩ := sortedAll_at s.heap its out.toArray
    refine ⟨.ref (s.heap.objs.size + 1), _, I.laid (t' := s.toks) (o := .lst ((bs.mergeSort (PySem.W.dataLe false (·.2))).map (·.1))) (fun b o e => sortedAll_old e) (Nat.le_succ _) ⟨?_, out, c, ev, hc⟩, rfl, q _ hn⟩
    rw [List.length_map, List.length_mergeSort]
    exact hz
/-- the list that was laid is sorted -/
theorem laid_sort {pins : List (Addr × Obj)} {σ : L2.St} {H : Hp} {s : Shared} {vs : List Value} {bs : List VD} {Q : VK} {Eh : Value → Shared → Prop} {A : Around} (hu : A.units + 50 < cLine) (I : Inv X pins σ H s) (rv : Vals (bs.map (·.1)) vs) (hd : ∀ b ∈ bs, Dp X.K H b.1 b.2) (ok : rowsOk (bs.map (·.2)) = true) (hz : bs.length ≤ sizeLine) (q : SortedPost H bs Q) :
    wpAny (model X.prog X.w) A (call (.builtin "list.sort") [.ref s.heap.objs.size]) (fun v s' => v = .none ∧ EP X pins σ Q (.ref s.heap.objs.size) s') Eh { s with heap := s.heap.push (seqObj "list" vs.toArray 0) } := by
  have hoL : (s.heap.push (seqObj "list" vs.toArray 0)).get? s.heap.objs.size = some (seqObj "list" vs.toArray 0) := Heap.get?_push_size _ rfl
  have I1 : Inv X pins σ H { s with heap := s.heap.push (seqObj "list" vs.toArray 0) } := I.kept (t' := s.toks) fun b o e => Heap.get?_push_of_some _ e
  have apart : PySem.W.EachIs (fun v b => ∃ as, Reads (s.heap.push (seqObj "list" vs.toArray 0)) v b.2 as ∧ s.heap.objs.size ∉ as) vs bs := by
    have e0 := each_reads I hd rv
    exact e0.mono fun v b ⟨as, h⟩ => ⟨as, PyProof.Rows.Reads.keeps (fun b o e => Heap.get?_push_of_some _ e) h, fun hm => Nat.lt_irrefl _ (reads_lt h _ hm)⟩
  refine PySem.W.list_sort_data (R := fun u b => RelV b.1 u) (enc := fun b : VD => b.2) hoL (out_each rv) apart (rowsOk_al ok) (rowsOk_so ok) hz (fun b hb => ?_) fun out ho eo => ⟨rfl, ?_⟩
  · have := rowsOk_dp ok b.2 (List.mem_map_of_mem hb)
    omega
  · have ev := each_out eo
    obtain ⟨c, hc⟩ := sortedHeap_at (vs := vs) (out := out.toArray) hoL
    refine ⟨.ref s.heap.objs.size, _, I.laid (t' := s.toks) (o := .lst ((bs.mergeSort (PySem.W.dataLe false (·.2))).map (·.1))) (fun b o e => ?_) (Nat.le_refl _) ⟨?_, out, c, ev, hc⟩, rfl, q _ (I.hok.fresh (Nat.le_refl _))⟩
    · have hb : b < s.heap.objs.size := Heap.lt_size e
      exact (sortedHeap_old (Nat.ne_of_lt hb) (by rw [Heap.size_push]; exact Nat.lt_succ_of_lt hb)).trans (Heap.get?_push_of_some _ e)
    · rw [List.length_map, List.length_mergeSort]
      exact hz
end
end DL

set_option maxHeartbeats 4000000
namespace DL
open PySem PySem.Spec PyProof.Rows L2
/-! ### sorted(..) as calls -/
theorem zip_fst {α β : Type} : ∀ {as : List α} {bs : List β}, as.length = bs.length → (as.zip bs).map (·.1) = as
  | [], _, _ => rfl
  | a :: as, b :: bs, h => by rw [List.zip_cons_cons, List.map_cons, zip_fst (by simpa using h)]
theorem zip_snd {α β : Type} : ∀ {as : List α} {bs : List β}, as.length = bs.length → (as.zip bs).map (·.2) = bs
  | [], [], _ => rfl
  | a :: as, b :: bs, h => by rw [List.zip_cons_cons, List.map_cons, zip_snd (by simpa using h)]
theorem ra_zip {F : Hp} : ∀ {vs : List V} {ds : List PyData}, RA F vs ds → ∀ b ∈ vs.zip ds, R F b.1 b.2
  | [], _, _, b, hb => by cases hb
  | v :: vs, [], h, b, hb => by cases h
  | v :: vs, d :: ds, .cons h1 h2, b, hb => by
    rcases List.mem_cons.mp hb with rfl | hb
    · exact h1
    · exact ra_zip h2 b hb
theorem zip_ra {F : Hp} : ∀ {bs : List VD}, (∀ b ∈ bs, R F b.1 b.2) → RA F (bs.map (·.1)) (bs.map (·.2))
  | [], _ => .nil
  | b :: bs, h => .cons (h b List.mem_cons_self) (zip_ra fun c hc => h c (List.mem_cons_of_mem _ hc))
section
variable {X : Cx} {g : Cg} {t : Ct} {E : XK} {pos : Pos} {k : Nat}
/-- behind it, in data -/
theorem sorted_fin {F H : Hp} {bs : List VD} {Q : VK} (tb : Tb g.T H) (i : ∀ b o, F b = some o → H b = some o) (hR : ∀ b ∈ bs, R F b.1 b.2) (q : ∀ w F' H', Gr g.T none F H F' H' → VR g t F' H' w (.p (.list (sortD (bs.map (·.2))))) → Q w H') : SortedPost H bs Q := fun p hp => by
  refine q _ _ _ (Gr.frozen tb i hp) (.lst upd_same ?_)
  have z : RA F ((bs.mergeSort (PySem.W.dataLe false (·.2))).map (·.1)) ((bs.mergeSort (PySem.W.dataLe false (·.2))).map (·.2)) := zip_ra fun b hb => hR b (List.mem_mergeSort.mp hb)
  rw [sort_pairs] at z
  exact ra_mono (Gr.frozen (T := g.T) (ad := none) (o := .lst _) tb i hp).sub _ _ z
def vSortL : List Val → Option Val
  | [x] => match lsOf x with
    | some ds => if rowsOk ds = true then some (.p (.list (sortD ds))) else none
    | none => none
  | _ => none
theorem cd_sortL {K : PySem.W.Frag} : CallD g t (rSortL K) vSortL := by
  intro F H vs xs z Q tb i r h q
  unfold vSortL at h
  split at h
  · rename_i x
    split at h
    · rename_i ds e
      split at h
      · rename_i ok
        cases h
        cases r with
        | cons r1 r2 =>
          cases r2
          obtain ⟨a, us, rfl, ha, hr⟩ := vr_ls i r1 e
          have hl := ra_len hr
          refine ⟨a, us.zip ds, rfl, by rw [zip_fst hl]; exact .inl (.inl ha), fun b hb => r_dp i _ _ (ra_zip hr b hb), by rw [zip_snd hl]; exact ok, sorted_fin (t := t) tb i (ra_zip hr) fun w F' H' e2 r2 => q w F' H' e2 ?_⟩
          rw [zip_snd hl] at r2
          exact r2
      · cases h
    · cases h
  · cases h
/-! ### sorted(a dict) -/
def rSortDT : List V → Hp → VK → Prop := fun xs H Q => ∃ (a : Addr) (kvs : PD), xs = [.ref a] ∧ Rd H a (.dT (kT kvs)) ∧ ∀ bs : List VD, bs.map (·.2) = keysD kvs → (∀ b ∈ bs, ∃ (q : Addr) (p : Int × Int), b.1 = .ref q ∧ b.2 = .tuple [.int p.1, .int p.2] ∧ H q = some (.tup [.int p.1, .int p.2])) → SortedPost H bs Q
theorem al_ints : ∀ p q : Int × Int, PySem.W.alike (.tuple [.int p.1, .int p.2]) (.tuple [.int q.1, .int q.2]) = true := fun p q => by simp [PySem.W.alike, PySem.W.alikeAll]
theorem dp_ints (p : Int × Int) : PyData.depth (.tuple [.int p.1, .int p.2]) ≤ 40 := by simp [PyData.depth, PyData.depthAll]
theorem rowsOk_pairs (ps : List (Int × Int)) : rowsOk (ps.map fun p => .tuple [.int p.1, .int p.2]) = true := by
  unfold rowsOk
  rw [List.all_eq_true]
  intro d hd
  obtain ⟨p, _, rfl⟩ := List.mem_map.mp hd
  rw [Bool.and_eq_true, List.all_eq_true]
  refine ⟨?_, fun d' hd' => ?_⟩
  · unfold rowOk
    exact decide_eq_true (dp_ints p)
  · obtain ⟨q, _, rfl⟩ := List.mem_map.mp hd'
    exact al_ints p q
theorem cr_sortDT (hr : Room k X.A) (hc : X.calm = true) : CallR X (.builtin "sorted") rSortDT := by
  intro pins s σ H xs us Q I r h
  obtain ⟨a, kvs, rfl, hd, q⟩ := h
  rw [Vals.ref1 r]
  obtain ⟨z, lo, ys, kt, o, es, ep, ho, hx, hdat, hes, his, hnd⟩ := dt_rd I.hok hd
  have hz : es.size = kvs.length := by rw [size_of_entries hes, ← Paired.length kt, kT_len]
  rw [kT_len] at z
  refine Calls.call_function_entry PyProof.Rows.kind_sorted PyProof.Rows.plain_sorted PyProof.Rows.entry_sorted (PyProof.Rows.args_sorted1 _) ?_
  unfold Builtin.«sorted»
  refine wpAny_bind (m := checkCount "sorted" 1 1 _) (wpAny_pure ?_)
  refine wpAny_bind (PySem.W.kdu_collect (A := X.A.in1) (PySem.KdlSrc.rawDict (es := es) (ep := ep) lo) (I.ok.hd hc) ⟨o, ho, hx, hdat⟩ (by rw [hz]; exact z) fun h' tk acc hk hacc => ?_)
  have I1 : Inv X pins σ H { s with heap := h', toks := tk } := I.kept hk
  -- the values with their data
  have key : ∀ (i : Nat) (v : Value), acc.toList[i]? = some v → ∃ (w : Addr) (p : Int × Int) (x : V), kvs[i]? = some (p, x) ∧ v = .ref w ∧ H w = some (.tup [.int p.1, .int p.2]) := by
    intro i v hv
    obtain ⟨hi, hv'⟩ := hacc.2 i v (by rw [← Array.getElem?_toList]; exact hv)
    have e1 := entry_at hes i
    rw [Array.getElem?_eq_getElem hi] at e1
    cases e2 : ys[i]? with
    | none => rw [e2] at e1; cases e1
    | some y =>
      rw [e2] at e1
      have e3 : es[i] = entryOfKey _ y := Option.some.inj e1
      have hi2 : i < (kT kvs).length := by rw [kT_len, ← hz]; exact hi
      obtain ⟨y', hy', e4, e5, _⟩ := paired_get kt (List.getElem?_eq_getElem hi2)
      rw [e2] at hy'
      cases hy'
      have hi3 : i < kvs.length := by rw [← hz]; exact hi
      refine ⟨y.2.1, kvs[i].1, kvs[i].2, List.getElem?_eq_getElem hi3, ?_, ?_⟩
      · rw [hv', e3]
        rfl
      · have e6 : (kT kvs)[i] = (kP kvs[i].1, kvs[i].2) := List.getElem_map _ (h := hi2)
        rw [e6] at e5
        exact e5
  have hal : acc.toList.length = kvs.length := by rw [Array.length_toList, hacc.1, hz]
  have build : ∀ (n : Nat) (vs : List Value) (ks : PD), vs.length = n → ks.length = n → (∀ (i : Nat) (v : Value), vs[i]? = some v → ∃ (w : Addr) (p : Int × Int) (x : V), ks[i]? = some (p, x) ∧ v = .ref w ∧ H w = some (.tup [.int p.1, .int p.2])) →
      ∃ bs : List VD, Vals (bs.map (·.1)) vs ∧ bs.map (·.2) = keysD ks ∧ ∀ b ∈ bs, ∃ (q : Addr) (p : Int × Int), b.1 = .ref q ∧ b.2 = .tuple [.int p.1, .int p.2] ∧ H q = some (.tup [.int p.1, .int p.2]) := by
    intro n
    induction n with
    | zero =>
      intro vs ks h1 h2 _
      rw [List.length_eq_zero_iff.mp h1, List.length_eq_zero_iff.mp h2]
      exact ⟨[], .nil, rfl, fun b hb => by cases hb⟩
    | succ n ih =>
      intro vs ks h1 h2 hk
      cases vs with
      | nil => cases h1
      | cons v vs =>
        cases ks with
        | nil => cases h2
        | cons kx ks =>
          obtain ⟨bs, b1, b2, b3⟩ := ih vs ks (by simpa using h1) (by simpa using h2) fun i u hu => by simpa using hk (i + 1) u (by simpa using hu)
          obtain ⟨w, p, x, e1, e2, e3⟩ := hk 0 v rfl
          have e4 : kx = (p, x) := Option.some.inj e1
          refine ⟨(.ref w, .tuple [.int p.1, .int p.2]) :: bs, .cons e2 b1, ?_, fun b hb => ?_⟩
          · rw [List.map_cons, b2, e4]
            rfl
          · rcases List.mem_cons.mp hb with rfl | hb
            · exact ⟨w, p, rfl, rfl, e3⟩
            · exact b3 b hb
  obtain ⟨bs, b1, b2, b3⟩ := build _ _ _ hal rfl key
  have hbl : bs.length = kvs.length := by
    have := congrArg List.length b2
    unfold keysD at this
    rw [List.length_map, List.length_map] at this
    exact this
  have ok : rowsOk (bs.map (·.2)) = true := by
    rw [b2]
    have : keysD kvs = (kvs.map (·.1)).map fun p => .tuple [.int p.1, .int p.2] := by unfold keysD; rw [List.map_map]; rfl
    rw [this]
    exact rowsOk_pairs _
  have dp : ∀ b ∈ bs, Dp X.K H b.1 b.2 := fun b hb => by
    obtain ⟨q, p, e1, e2, e3⟩ := b3 b hb
    rw [e1, e2]
    exact .tup (.inl (.inl e3)) (.cons (.int _) (.cons (.int _) .nil))
  refine wpAny_bind (wpAny_newList ?_ (by rw [hal]; exact z))
  refine wpAny_bind (wpAny_holding ?_)
  refine wpAny_mono (laid_sort (A := X.A.in1) (Eh := _) (by have := hr.un; show X.A.units + 1 + 50 < _; omega) I1 b1 dp ok (by rw [hbl]; exact z) (q bs b2 b3)) (fun v s' hv => ?_) fun _ _ e => e
  exact wpAny_pure ⟨_, rfl, hv.2⟩
def vSortDT : List Val → Option Val
  | [x] => (dictOf x).map fun kvs => .p (.list (sortD (keysD kvs)))
  | _ => none
/-- sorted(d) -/
def eSortD (f : SE) : SE := SM.bind f fun x => SM.opt ((dictOf x).map fun kvs => .p (.list (sortD (keysD kvs))))
theorem de_sortD {e : Expr} {fe : SE} {p : Pos} (hr : Room k X.A) (hm : X.mg "sorted" = none) (ha : DE X g t E e fe) (hg : Gl X "sorted" := by rfl) (hc : X.calm = true := by rfl)
    (he : starEach (e :: []) X.env = (false, eval e X.env) :: starEach [] X.env := by rfl) : DE X g t E (.Call (.Name "sorted" p) [e] [] pos) (eSortD fe) := by
  obtain ⟨ta, pa, ea⟩ := ha
  refine ⟨_, pe_callB (cr_sortDT hr hc) hg hm (by decide +kernel) (pa_cons pa pa_nil he) (by decide) (by decide) he (by rfl), fun ρ dc F σ H Q s hp => ?_⟩
  refine ea.bind s hp fun x xa dc1 F1 H1 g1 s1 r1 hp1 => ?_
  obtain ⟨z, hz, hp2⟩ := hp1.opt
  cases e1 : dictOf xa with
  | none => rw [e1] at hz; cases hz
  | some kvs =>
    rw [e1] at hz
    cases hz
    obtain ⟨a, rfl, hd⟩ := dict_at s1.inc r1 e1
    refine ⟨a, kvs, rfl, hd, fun bs h2 h3 => sorted_fin (t := t) s1.tab s1.inc (fun b hb => ?_) fun w F' H' e2 r2 => ?_⟩
    · obtain ⟨q, p, q1, q2, q3⟩ := h3 b hb
      rw [q1, q2]
      exact .tup (s1.tup _ _ q3) (ints_ra [p.1, p.2])
    · rw [h2] at r2
      exact PostG.fin s1 hp2 e2 r2
end
end DL

set_option maxHeartbeats 4000000
namespace DL
open PySem PySem.Spec PyProof.Rows L2
/-! ### sorted(set(a list of pairs)) -/
def pairsOf : List PyData → Option (List (Int × Int))
  | [] => some []
  | d :: ds => (pairOf d).bind fun p => (pairsOf ds).map (p :: ·)
def pD (p : Int × Int) : PyData := .tuple [.int p.1, .int p.2]
def nubP : List (Int × Int) → List (Int × Int)
  | [] => []
  | p :: ps => if p ∈ ps then nubP ps else p :: nubP ps
theorem mem_nub {x : Int × Int} : ∀ {ps : List (Int × Int)}, x ∈ nubP ps ↔ x ∈ ps
  | [] => Iff.rfl
  | p :: ps => by
    unfold nubP
    split
    · rename_i h
      rw [mem_nub, List.mem_cons]
      exact ⟨.inr, fun z => z.elim (fun e => e ▸ h) id⟩
    · rw [List.mem_cons, List.mem_cons, mem_nub]
theorem nub_nodup : ∀ ps : List (Int × Int), (nubP ps).Nodup
  | [] => .nil
  | p :: ps => by
    unfold nubP
    split
    · exact nub_nodup ps
    · rename_i h
      exact List.nodup_cons.mpr ⟨fun z => h (mem_nub.mp z), nub_nodup ps⟩
def pLe (p q : Int × Int) : Bool := decide (p.1 < q.1 ∨ (p.1 = q.1 ∧ p.2 ≤ q.2))
theorem pLe_eq : PySem.W.dataLe false (fun p : Int × Int => pD p) = pLe := PySem.W.dataLe_ii (β := Int × Int) (·.1) (·.2)
theorem sort_pD (ps : List (Int × Int)) : sortD (ps.map pD) = (ps.mergeSort pLe).map pD := by
  unfold sortD
  rw [← pLe_eq]
  exact (List.map_mergeSort (f := pD) (r := PySem.W.dataLe false fun p => pD p) (s := PySem.W.dataLe false id) fun a _ b _ => rfl).symm
theorem pLe_trans (a b c : Int × Int) : pLe a b = true → pLe b c = true → pLe a c = true := by
  unfold pLe
  rw [decide_eq_true_eq, decide_eq_true_eq, decide_eq_true_eq]
  omega
theorem pLe_total (a b : Int × Int) : (pLe a b || pLe b a) = true := by
  unfold pLe
  rw [Bool.or_eq_true, decide_eq_true_eq, decide_eq_true_eq]
  omega
theorem pLe_anti (a b : Int × Int) (h1 : pLe a b = true) (h2 : pLe b a = true) : a = b := by
  unfold pLe at h1 h2
  rw [decide_eq_true_eq] at h1 h2
  exact Prod.ext (by omega) (by omega)
theorem pSort_perm {ps qs : List (Int × Int)} (h : ps.Perm qs) : ps.mergeSort pLe = qs.mergeSort pLe :=
  List.Perm.eq_of_pairwise (le := fun a b => pLe a b = true) (fun a b _ _ => pLe_anti a b) (List.pairwise_mergeSort pLe_trans pLe_total ps) (List.pairwise_mergeSort pLe_trans pLe_total qs)
    (((List.mergeSort_perm ps _).trans h).trans (List.mergeSort_perm qs _).symm)
section
variable {X : Cx} {g : Cg} {t : Ct} {E : XK} {pos : Pos} {k : Nat}
abbrev RP := Addr × List Int
def vdOf (q : RP) : VD := (.ref q.1, .tuple (q.2.map .int))
def rSortSet (K : PySem.W.Frag) (P : Program) (w : World) : List V → Hp → VK → Prop := fun vs H Q => ∃ (a : Addr) (L : List RP), vs = [V.ref a] ∧ H a = some (SetTO P w a L) ∧ (∀ p ∈ L, SqT K H p.1 (p.2.map V.int)) ∧ (∀ p ∈ L, p.2.length = 2) ∧
  ∀ L1 : List RP, L1.Perm L → (L1.map (·.2)).Nodup → SortedPost H (L1.map vdOf) Q
theorem cr_sortSet (hr : Room k X.A) (hc : X.calm = true) : CallR X (.builtin "sorted") (rSortSet X.K X.prog X.w) := by
  intro pins s σ H vs us Q I r h
  obtain ⟨a, L, rfl, ha, hk, h2, q⟩ := h
  have R0 : SetT0 X.prog X.w s.heap a L := (I.hok a _ ha).1
  obtain ⟨es, ep, t, R⟩ := R0.full fun p hp => I.isT (hk p hp)
  rw [Vals.ref1 r]
  obtain ⟨o, ho, hex, hd⟩ := R.ob
  have hsz := R.size
  have hfew := R.few
  refine Calls.call_function_entry PyProof.Rows.kind_sorted PyProof.Rows.plain_sorted PyProof.Rows.entry_sorted (PyProof.Rows.args_sorted1 _) ?_
  unfold Builtin.«sorted»
  refine wpAny_bind (m := checkCount "sorted" 1 1 _) (wpAny_pure ?_)
  refine wpAny_bind (L2.collect_set (A := X.A.in1) (I.ok.hd hc) ⟨o, ho, hex.1, hd⟩ R.fits (by unfold scanBound; omega) R.tab.ris R.led fun s1 vs k1 hz g1 o1 pm => ?_)
  have hes : es.toList.map (·.2) = L.map fun q => Value.ref q.1 := by
    rw [R.rows]
    unfold rowsOf
    rw [List.map_map] <;> rfl
  rw [hes] at pm
  have ord : ∀ vs : List Value, (∀ v ∈ vs, ∃ q ∈ L, v = Value.ref q.1) → ∃ L1 : List RP, vs = L1.map (fun q => Value.ref q.1) ∧ ∀ q ∈ L1, q ∈ L := by
    intro vs
    induction vs with
    | nil => exact fun _ => ⟨[], rfl, fun q hq => (by cases hq)⟩
    | cons v vs ih =>
      intro hv
      obtain ⟨q, hq, e⟩ := hv v List.mem_cons_self
      obtain ⟨L1, e1, hs⟩ := ih fun u hu => hv u (List.mem_cons_of_mem _ hu)
      exact ⟨q :: L1, by rw [List.map_cons, e, e1], fun r hr => (List.mem_cons.mp hr).elim (fun z => z ▸ hq) (hs r)⟩
  have one : ∀ q ∈ L, ∀ r ∈ L, q.1 = r.1 → q = r := fun q hq r hr e => by
    have a1 := R.tup q hq
    have a2 := R.tup r hr
    rw [e] at a1
    exact Prod.ext e (a1.inj a2)
  obtain ⟨L1, e1, hs⟩ := ord vs fun v hv => let ⟨q, hq, e⟩ := List.mem_map.mp (pm.mem_iff.mp hv); ⟨q, hq, e.symm⟩
  have pL : L1.Perm L := by
    rw [e1] at pm
    have nL : L.Nodup := nodup_of_map R.nd
    have nref : (L.map fun q => Value.ref q.1).Nodup := List.pairwise_map.mpr (List.Pairwise.imp_of_mem (fun {q r} hq hr hne e => by injection e with e; exact hne (one q hq r hr e)) nL)
    have n1 : L1.Nodup := nodup_of_map (pm.nodup_iff.mpr nref)
    refine (List.perm_ext_iff_of_nodup n1 nL).mpr fun q => ⟨hs q, fun hq => ?_⟩
    obtain ⟨r, hr, e⟩ := List.mem_map.mp (pm.mem_iff.mpr (List.mem_map.mpr ⟨q, hq, rfl⟩))
    injection e with e
    rw [← one r (hs r hr) q hq e]
    exact hr
  have hlen : L1.length < 64 := by rw [pL.length_eq]; exact hfew
  have I1 : L2.Inv X pins σ H s1 := I.call' (ch := []) o1 (Un.kept k1) (I.hok.kept k1) (by rw [g1]; exact I.bare) (fun _ z => nomatch z)
  have mp : (L1.map vdOf).map (·.1) = L1.map fun q => V.ref q.1 := by rw [List.map_map]; rfl
  refine wpAny_bind (wpAny_newList ?_ (by rw [e1, List.length_map, sizeLine_eq]; omega))
  refine wpAny_bind (wpAny_holding ?_)
  refine wpAny_mono (laid_sort (A := X.A.in1) (bs := L1.map vdOf) (by have := hr.un; show X.A.units + 1 + 50 < _; omega) I1 (by rw [mp, e1]; exact vals_of_refs L1) (fun b hb => ?_) ?_ (by rw [List.length_map, sizeLine_eq]; omega) (q L1 pL ((pL.map (·.2)).nodup_iff.mpr R.nd))) (fun v s' hv => ?_) fun _ _ e => e
  · obtain ⟨p, hp, rfl⟩ := List.mem_map.mp hb
    exact .tup (hk p (hs p hp)) (by
      have : ∀ ns : List Int, DpAll X.K H (ns.map V.int) (ns.map .int) := fun ns => by
        induction ns with
        | nil => exact .nil
        | cons n ns ih => exact .cons (.int _) ih
      exact this p.2)
  · unfold rowsOk
    rw [List.all_eq_true]
    intro d hd'
    obtain ⟨b, hb, rfl⟩ := List.mem_map.mp hd'
    obtain ⟨p, hp, rfl⟩ := List.mem_map.mp hb
    have e2 : ∀ p ∈ L1, ∃ x y : Int, p.2 = [x, y] := fun p hp => by
      have := h2 p (hs p hp)
      match hp2 : p.2, this with
      | [x, y], _ => exact ⟨x, y, rfl⟩
    obtain ⟨x, y, exy⟩ := e2 p hp
    rw [Bool.and_eq_true, List.all_eq_true]
    refine ⟨?_, fun d' hd'' => ?_⟩
    · show rowOk (.tuple (p.2.map .int)) = true
      rw [exy]
      unfold rowOk
      exact decide_eq_true (dp_ints (x, y))
    · obtain ⟨b', hb', rfl⟩ := List.mem_map.mp hd''
      obtain ⟨p', hp', rfl⟩ := List.mem_map.mp hb'
      obtain ⟨x', y', exy'⟩ := e2 p' hp'
      show PySem.W.alike (.tuple (p.2.map .int)) (.tuple (p'.2.map .int)) = true
      rw [exy, exy']
      exact al_ints (x, y) (x', y')
  · exact wpAny_pure ⟨_, rfl, hv.2⟩
theorem ra_pairs {F : Hp} : ∀ {vs : List V} {ds : List PyData} {ps : List (Int × Int)}, RA F vs ds → pairsOf ds = some ps → ds = ps.map pD ∧ ∃ ks : List RP, vs = ks.map (fun p => V.ref p.1) ∧ ks.map (·.2) = ps.map (fun p => [p.1, p.2]) ∧ ∀ p ∈ ks, F p.1 = some (.tup (p.2.map V.int))
  | [], _, _, .nil, e => by cases e; exact ⟨rfl, [], rfl, rfl, fun p hp => by cases hp⟩
  | v :: vs, d :: ds, ps, .cons h1 h2, e => by
    have e' : (pairOf d).bind (fun p => (pairsOf ds).map (p :: ·)) = some ps := e
    cases e1 : pairOf d with
    | none => rw [e1] at e'; cases e'
    | some p =>
      rw [e1] at e'
      have e3 : (pairsOf ds).map (p :: ·) = some ps := e'
      cases e2 : pairsOf ds with
      | none => rw [e2] at e3; cases e3
      | some qs =>
        rw [e2] at e3
        cases e3
        obtain ⟨z1, ks, z2, z3, z4⟩ := ra_pairs h2 e2
        obtain ⟨b, rfl, hb⟩ := pair_r h1 e1
        refine ⟨?_, (b, [p.1, p.2]) :: ks, by rw [z2]; rfl, by rw [List.map_cons, z3]; rfl, fun q hq => ?_⟩
        · rw [z1, List.map_cons]
          refine congrArg (· :: _) ?_
          unfold pairOf at e1
          split at e1
          · cases e1; rfl
          · cases e1
        · rcases List.mem_cons.mp hq with rfl | hq
          · exact hb
          · exact z4 q hq
def vSortSet (x : Val) : Option Val := (lsOf x).bind fun ds => (pairsOf ds).bind fun ps => if ps.length < 64 then some (.p (.list (((nubP ps).mergeSort pLe).map pD))) else none
/-- sorted(set(e)) -/
theorem de_sortSet {e : Expr} {fe : SE} {p1 p2 q1 : Pos} (hr : Room k X.A) (hm : X.mg "sorted" = none) (hm2 : X.mg "set" = none) (ha : DE X g t E e fe) (hg : Gl X "sorted" := by rfl) (hg2 : Gl X "set" := by rfl) (hc : X.calm = true := by rfl)
    (he : starEach (e :: []) X.env = (false, eval e X.env) :: starEach [] X.env := by rfl)
    (he2 : starEach (.Call (.Name "set" p1) [e] [] p2 :: []) X.env = (false, eval (.Call (.Name "set" p1) [e] [] p2) X.env) :: starEach [] X.env := by rfl) :
    DE X g t E (.Call (.Name "sorted" q1) [.Call (.Name "set" p1) [e] [] p2] [] pos) (eUn vSortSet fe) := by
  obtain ⟨ta, pa, ea⟩ := ha
  have hu := hr.un
  refine ⟨_, pe_callB (cr_sortSet hr hc) hg hm (by decide +kernel) (pa_cons (pe_callTy (cr_setOfT hc (by omega)) hg2 hm2 (by decide +kernel) (pa_cons pa pa_nil he) (by decide) (by decide) he (by rfl)) pa_nil he2) (by decide) (by decide) he2 (by rfl), fun ρ dc F σ H Q s hp => ?_⟩
  refine ea.bind s hp fun x xa dc1 F1 H1 g1 s1 r1 hp1 => ?_
  obtain ⟨z, hz, hp2⟩ := hp1.opt
  unfold vSortSet at hz
  cases e1 : lsOf xa with
  | none => rw [e1] at hz; cases hz
  | some ds =>
    rw [e1] at hz
    have hz2 : (pairsOf ds).bind (fun ps => if ps.length < 64 then some (Val.p (.list (((nubP ps).mergeSort pLe).map pD))) else none) = some z := hz
    cases e2 : pairsOf ds with
    | none => rw [e2] at hz2; cases hz2
    | some ps =>
      rw [e2] at hz2
      have hz3 : (if ps.length < 64 then some (Val.p (.list (((nubP ps).mergeSort pLe).map pD))) else none) = some z := hz2
      by_cases h64 : ps.length < 64
      · rw [if_pos h64] at hz3
        cases hz3
        obtain ⟨l, vs, rfl, hl, hra⟩ := vr_ls s1.inc r1 e1
        obtain ⟨z1, ks, z2, z3, z4⟩ := ra_pairs hra e2
        have kl : ks.length = ps.length := by
          have := congrArg List.length z3
          rwa [List.length_map, List.length_map] at this
        subst z2
        refine ⟨l, ks, rfl, .inl (.inl hl), fun p hp => .inl (.inl (s1.inc _ _ (z4 p hp))), by rw [kl]; exact h64, fun a L hn hL1 hL2 => ?_⟩
        have at' : ∀ p ∈ L, upd H1 a (SetTO X.prog X.w a L) p.1 = some (.tup (p.2.map V.int)) := fun p hp => by
          have := s1.inc _ _ (z4 p (hL1 p hp))
          rw [upd_ne (ne_of_none this hn)]
          exact this
        have two : ∀ p ∈ ks, ∃ x y : Int, p.2 = [x, y] := fun p hp => by
          have : p.2 ∈ ks.map (·.2) := List.mem_map_of_mem hp
          rw [z3] at this
          obtain ⟨q, _, e⟩ := List.mem_map.mp this
          exact ⟨q.1, q.2, e.symm⟩
        refine ⟨a, L, rfl, upd_same, fun p hp => .inl (.inl (at' p hp)), fun p hp => by obtain ⟨x, y, e⟩ := two p (hL1 p hp); rw [e]; rfl, fun L1 pm nd p hpn => ?_⟩
        have g0 : Gr g.T none F1 H1 (upd F1 a (SetTO X.prog X.w a L)) (upd H1 a (SetTO X.prog X.w a L)) := Gr.frozen s1.tab s1.inc hn
        refine sorted_fin (t := t) (Q := Q) g0.tab g0.inc (bs := L1.map vdOf) (fun b hb => ?_) (fun w F' H' e3 r2 => PostG.fin s1 hp2 (g0.trans e3) ?_) p hpn
        · obtain ⟨q, hq, rfl⟩ := List.mem_map.mp hb
          have hqL := hL1 q (pm.mem_iff.mp hq)
          exact .tup (g0.sub _ _ (z4 q hqL)) (ints_ra q.2)
        · have key : sortD ((L1.map vdOf).map (·.2)) = ((nubP ps).mergeSort pLe).map pD := by
            have tw : ∀ L1 : List RP, (∀ q ∈ L1, q ∈ ks) → ∃ qs : List (Int × Int), (L1.map vdOf).map (·.2) = qs.map pD ∧ L1.map (·.2) = qs.map (fun p => [p.1, p.2]) := by
              intro L1
              induction L1 with
              | nil => exact fun _ => ⟨[], rfl, rfl⟩
              | cons q L1 ih =>
                intro h
                obtain ⟨qs, h1, h2⟩ := ih fun r hr => h r (List.mem_cons_of_mem _ hr)
                obtain ⟨x, y, e⟩ := two q (h q List.mem_cons_self)
                refine ⟨(x, y) :: qs, ?_, ?_⟩
                · rw [List.map_cons, List.map_cons, h1]
                  refine congrArg (· :: _) ?_
                  show PyData.tuple (q.2.map .int) = _
                  rw [e]; rfl
                · rw [List.map_cons, h2, e]; rfl
            obtain ⟨qs, h1, h2⟩ := tw L1 fun q hq => hL1 q (pm.mem_iff.mp hq)
            rw [h1, sort_pD]
            refine congrArg (List.map pD) (pSort_perm ?_)
            have nq : qs.Nodup := by
              rw [h2] at nd
              exact nodup_of_map nd
            have inj : ∀ a b : Int × Int, [a.1, a.2] = [b.1, b.2] → a = b := fun a b e => by
              have e1 := List.cons.inj e
              exact Prod.ext e1.1 (List.cons.inj e1.2).1
            refine (List.perm_ext_iff_of_nodup nq (nub_nodup ps)).mpr fun q => ?_
            rw [mem_nub]
            constructor
            · intro hq
              have : [q.1, q.2] ∈ L1.map (·.2) := by rw [h2]; exact List.mem_map.mpr ⟨q, hq, rfl⟩
              obtain ⟨r, hr, e⟩ := List.mem_map.mp this
              have : r.2 ∈ ks.map (·.2) := List.mem_map_of_mem (hL1 r (pm.mem_iff.mp hr))
              rw [z3] at this
              obtain ⟨q', hq', e'⟩ := List.mem_map.mp this
              rw [← inj q' q (e'.trans e)]
              exact hq'
            · intro hq
              have : [q.1, q.2] ∈ ks.map (·.2) := by rw [z3]; exact List.mem_map.mpr ⟨q, hq, rfl⟩
              obtain ⟨r, hr, e⟩ := List.mem_map.mp this
              have h3 := hL2 r hr
              rw [e] at h3
              have h4 : [q.1, q.2] ∈ L1.map (·.2) := (pm.map (·.2)).mem_iff.mpr h3
              rw [h2] at h4
              obtain ⟨q', hq', e'⟩ := List.mem_map.mp h4
              rw [← inj q' q e']
              exact hq'
          rw [← key]
          exact r2
      · rw [if_neg h64] at hz3
        cases hz3
end
end DL

set_option maxHeartbeats 4000000
namespace DL
open PySem PySem.Spec PyProof.Rows L2
/-! ### d == d2, both of pairs, every value True -/
section
variable {prog : Program} {w : World} {K : Type} [DecidableEq K] {knd : HeapKind prog w K} {A : Around} {E : Value → Shared → Prop} {s : Shared}
abbrev EntsAt (knd : HeapKind prog w K) (s : Shared) (a : Addr) (xs : List (K × Addr × Value)) : Prop := s.heap.DictOfH knd a xs
def memH {K : Type} [DecidableEq K] (k : K) (ks : List K) : Bool := ks.any fun j => decide (j = k)
theorem memH_iff {K : Type} [DecidableEq K] {k : K} {ks : List K} : memH k ks = true ↔ k ∈ ks := by
  unfold memH
  rw [List.any_eq_true]
  exact ⟨fun ⟨j, h1, h2⟩ => of_decide_eq_true h2 ▸ h1, fun h => ⟨k, h, decide_eq_true rfl⟩⟩
def sameH (xs ys : List (K × Addr × Value)) : Bool := xs.length == ys.length && xs.all fun x => memH x.1 (ys.map (·.1))
theorem same_pairs {nm : String} {a b : Addr} {xs ys : List (K × Addr × Value)} {Q : Bool → Shared → Prop} (ha : (a == sysModules) = false) (hb : (b == sysModules) = false) (hu : knd.room A)
    (da : s.heap.DictOfH knd a xs) (db : s.heap.DictOfH knd b ys) (vx : ∀ x ∈ xs, x.2.2 = .bool true) (vy : ∀ y ∈ ys, y.2.2 = .bool true)
    (h : Q (sameH xs ys) s) : wpAny (model prog w) A (Builtin.Dict.samePairs nm a b) Q E s := by
  obtain ⟨oa, es, ep, hoa, _, hda, hka, hia, na⟩ := da
  obtain ⟨ob, es', ep', hob, _, hdb, hkb, hib, nb⟩ := db
  have hla : xs.length = es.size := (size_of_entries hka).symm
  have hlb : ys.length = es'.size := (size_of_entries hkb).symm
  unfold sameH at h
  rw [hla, hlb] at h
  unfold Builtin.Dict.samePairs Builtin.Dict.showsAll
  rw [if_neg (show ¬ (a == sysModules) = true by rw [ha]; exact Bool.false_ne_true), if_neg (show ¬ (b == sysModules) = true by rw [hb]; exact Bool.false_ne_true)]
  refine wpAny_bind (wpAny_pure (wpAny_bind (wpAny_pure (wpAny_bind (wpAny_dictEntries hoa hda ?_)))))
  dsimp only
  refine wpAny_bind (wpAny_dictEntries hob hdb ?_)
  by_cases hsz : es.size = es'.size
  case neg =>
    rw [if_pos (by simpa using hsz)]
    rw [show (es.size == es'.size) = false by simpa using hsz, Bool.false_and] at h
    exact wpAny_bind (wpAny_rule (wpAny_pure h))
  case pos =>
    have h' : Q (xs.all fun x => memH x.1 (ys.map (·.1))) s := by simpa [hsz] using h
    rw [if_neg (by rw [hsz]; simp)]
    refine wpAny_bind (wpAny_dictEpoch hoa hda (wpAny_bind ?_))
    rw [Std.Legacy.Range.forIn_eq_forIn_range']
    simp only [Std.Legacy.Range.size, Nat.sub_zero, Nat.add_sub_cancel, Nat.div_one]
    refine wpAny_forIn_list _
      (fun rest q s' => s' = s ∧ q = (none, ()) ∧ ∃ i, rest = List.range' i (es.size - i) ∧ i ≤ es.size ∧ (xs.all fun x => memH x.1 (ys.map (·.1))) = (xs.drop i).all fun x => memH x.1 (ys.map (·.1)))
      _ ?_ ?_ _ _ ⟨rfl, rfl, 0, by simp, Nat.zero_le _, rfl⟩
    · rintro x rest q s' ⟨rfl, rfl, i, hr, hi, hpre⟩
      have hlt : i < es.size := by
        rcases Nat.lt_or_ge i es.size with h | h
        · exact h
        · rw [Nat.sub_eq_zero_of_le h] at hr; simp at hr
      obtain ⟨rfl, hrest⟩ : x = i ∧ rest = List.range' (i + 1) (es.size - (i + 1)) := by
        have e : es.size - i = (es.size - (i + 1)) + 1 := by omega
        rw [e, List.range'_succ] at hr
        injection hr with h1 h2
        exact ⟨h1, h2⟩
      refine wpAny_bind (wpAny_dictEntries hoa hda ?_)
      rw [Array.getElem?_eq_getElem hlt]
      have hlt' : x < xs.length := by rw [hla]; exact hlt
      have hdrop : xs.drop x = xs[x] :: xs.drop (x + 1) := List.drop_eq_getElem_cons hlt'
      have he : es[x] = entryOfKey knd xs[x] := by
        have e1 := entry_at hka x
        rw [Array.getElem?_eq_getElem hlt, List.getElem?_eq_getElem hlt'] at e1
        exact Option.some.inj e1
      have hmem : xs[x] ∈ xs := List.getElem_mem hlt'
      rw [hdrop, List.all_cons] at hpre
      rw [he]
      show wpAny _ _ (holding [Value.ref xs[x].2.1, xs[x].2.2] _ >>= _) _ _ _
      refine wpAny_bind (wpAny_holding (wpAny_bind (wpAny_dictFind_heap hu (hia _ hmem) hob hdb hkb hib nb (fun hn => ?_) fun j p hj => ?_)))
      · have no : memH xs[x].1 (ys.map (·.1)) = false := Bool.eq_false_iff.mpr fun z0 => by
          have z := memH_iff.mp z0
          obtain ⟨y, hy, e⟩ := List.mem_map.mp z
          obtain ⟨j, hj, e2⟩ := List.getElem_of_mem hy
          refine hn j y.2 ?_
          rw [List.getElem?_eq_getElem hj, e2, ← e]
        rw [no, Bool.false_and] at hpre
        rw [hpre] at h'
        refine wpAny_pure ?_
        show wpAny _ _ (if (!false) = true then _ else _) _ _ _
        rw [if_pos (by decide)]
        exact wpAny_pure (wpAny_pure h')
      · have hjl : j < ys.length := (List.getElem?_eq_some_iff.mp hj).1
        have hjm : (xs[x].1, p) ∈ ys := List.mem_of_getElem? hj
        have yes : memH xs[x].1 (ys.map (·.1)) = true := memH_iff.mpr (List.mem_map.mpr ⟨_, hjm, rfl⟩)
        rw [yes, Bool.true_and] at hpre
        have hjlt : j < es'.size := by rw [← hlb]; exact hjl
        have he' : es'[j] = entryOfKey knd (xs[x].1, p) := by
          have e1 := entry_at hkb j
          rw [Array.getElem?_eq_getElem hjlt, hj] at e1
          exact Option.some.inj e1
        refine wpAny_bind (wpAny_dictEntries hob hdb ?_)
        rw [Array.getElem?_eq_getElem hjlt, he']
        have v1 := vx _ hmem
        have v2 : p.2 = .bool true := vy _ hjm
        have ev : ∀ A' : Around, SeqAt.EqAt A' s' xs[x].2.2 p.2 true := fun A' => by rw [v1, v2]; exact SeqAt.EqAt.bool_bool true true
        refine wpAny_holding (ev _ prog w _ _ ?_)
        show wpAny _ _ (if (!true) = true then _ else _) _ _ _
        rw [if_neg (by decide)]
        refine wpAny_bind (wpAny_dictEpoch hoa hda ?_)
        rw [if_neg (by simp)]
        exact wpAny_pure ⟨rfl, rfl, x + 1, hrest, hlt, hpre⟩
    · rintro q s' ⟨rfl, rfl, i, hr, hi, hpre⟩
      have hin : i = es.size := by
        rcases Nat.lt_or_ge i es.size with h | h
        · have e : es.size - i = (es.size - (i + 1)) + 1 := by omega
          rw [e, List.range'_succ] at hr; exact nomatch hr
        · exact Nat.le_antisymm hi h
      refine wpAny_pure ?_
      rw [hin, ← hla, List.drop_length] at hpre
      rw [hpre] at h'
      exact h'
/-- d == d2 -/
theorem eqH_pairs {a b : Addr} {xs ys : List (K × Addr × Value)} {Q : Value → Shared → Prop} (ha : (a == sysModules) = false) (hb : (b == sysModules) = false) (hu : A.units < cLine) (hk : knd.room A.in1)
    (da : s.heap.DictOfH knd a xs) (db : s.heap.DictOfH knd b ys) (vx : ∀ x ∈ xs, x.2.2 = .bool true) (vy : ∀ y ∈ ys, y.2.2 = .bool true)
    (h : Q (.bool (sameH xs ys)) s) : wpAny (model prog w) A (compareOp .Eq (.ref a) (.ref b)) Q E s := by
  refine wpAny_richCompare_same_room (op := .Eq) da.typeIs db.typeIs PySem.F.slot_dict_eq (wpAny_call_entry PySem.F.slot_dict_eq da.typeIs PySem.F.entry_dict_eq ?_ (PySem.F.args_dict_eq_2 _ _)) hu
  show wpAny _ _ (Builtin.Dict.dictSlotArgs "__eq__" ⟨[.ref a, .ref b], []⟩ >>= _) _ _ s
  refine wpAny_bind ?_
  unfold Builtin.Dict.dictSlotArgs
  refine wpAny_bind (wpAny_notOrdered_dict da.typeIs (wpAny_pure (wpAny_bind (wpAny_isInstance (T := "dict") db.typeIs PySem.F.sub_dict_dict ?_))))
  simp only [Bool.not_true, Bool.false_eq_true, if_false]
  refine wpAny_bind (wpAny_pure (wpAny_bind (wpAny_pure (wpAny_bind (same_pairs ha hb hk da db vx vy (wpAny_pure ⟨_, rfl, (fun x => nomatch x), ?_⟩))))))
  simpa using h
end
section
variable {X : Cx} {g : Cg} {t : Ct} {E : XK} {pos : Pos} {k : Nat}
def allTr (kvs : PD) : Bool := kvs.all fun kv => match kv.2 with
  | .bl true => true
  | _ => false
def sameK (ka kb : PD) : Bool := ka.length == kb.length && ka.all fun x => decide (x.1 ∈ kb.map (·.1))
def rEqDT : R2 := fun v u H Q => ∃ (a b : Addr) (ka kb : PD), v = .ref a ∧ u = .ref b ∧ Rd H a (.dT (kT ka)) ∧ Rd H b (.dT (kT kb)) ∧ allTr ka = true ∧ allTr kb = true ∧ Q (.bl (sameK ka kb)) H
theorem kt_keys {H : Hp} : ∀ {kvs : PD} {ys : List (List Key × Addr × Value)}, KT H (kT kvs) ys → ys.map (·.1) = kvs.map fun q => kP q.1
  | [], _, .nil => rfl
  | q :: kvs, _, .cons h1 h2 => by
    rw [List.map_cons, List.map_cons, kt_keys (kvs := kvs) h2, ← h1.1]
    rfl
theorem kt_true {H : Hp} : ∀ {kvs : PD} {ys : List (List Key × Addr × Value)}, KT H (kT kvs) ys → allTr kvs = true → ∀ y ∈ ys, y.2.2 = .bool true
  | [], _, .nil, _ => fun y hy => by cases hy
  | q :: kvs, y0 :: ys, .cons h1 h2, e => fun y hy => by
    unfold allTr at e
    rw [List.all_cons, Bool.and_eq_true] at e
    rcases List.mem_cons.mp hy with rfl | hy
    · have e1 := e.1
      split at e1
      · rename_i hq
        have := h1.2.2
        rw [show (([Sum.inl q.1.1, Sum.inl q.1.2], q.2) : List Key × V).2 = V.bl true from hq] at this
        exact this
      · cases e1
    · exact kt_true (kvs := kvs) h2 e.2 y hy
theorem op_eqDT (hr : Room k X.A) : OpR X (compareOp .Eq) rEqDT := by
  intro pins s σ H x y v u Q I rx ry h
  obtain ⟨a, b, ka, kb, rfl, rfl, da, db, ta, tb, q⟩ := h
  obtain ⟨_, la, xs, ktx, dx⟩ := dt_rd I.hok da
  obtain ⟨_, lb, ys, kty, dy⟩ := dt_rd I.hok db
  have lx := Paired.length ktx
  have ly := Paired.length kty
  rw [kT_len] at lx ly
  cases rx
  cases ry
  refine eqH_pairs la lb hr.units0 (tupleKind_room_in1 (by have := hr.un; omega)) dx dy (kt_true ktx ta) (kt_true kty tb) ?_
  refine ⟨V.bl (sameK ka kb), H, I, ?_, q⟩
  have e : sameH xs ys = sameK ka kb := by
    unfold sameH sameK
    rw [← lx, ← ly]
    congr 1
    have e1 : (xs.all fun x => memH x.1 (ys.map (·.1))) = (xs.map (·.1)).all fun z => memH z (ys.map (·.1)) := by rw [List.all_map]; rfl
    rw [e1, kt_keys ktx, kt_keys kty, List.all_map]
    refine congrArg (List.all ka) (funext fun q => Bool.eq_iff_iff.mpr ?_)
    show memH (kP q.1) (kb.map fun q => kP q.1) = true ↔ decide (q.1 ∈ kb.map (·.1)) = true
    rw [memH_iff, decide_eq_true_eq, List.mem_map, List.mem_map]
    exact ⟨fun ⟨r, h1, h2⟩ => ⟨r, h1, kP_inj.mp h2⟩, fun ⟨r, h1, h2⟩ => ⟨r, h1, by rw [h2]⟩⟩
  rw [e]
  rfl
def vEqDT : Val → Val → Option Val := fun x y => (dictOf x).bind fun ka => (dictOf y).bind fun kb => if allTr ka = true ∧ allTr kb = true then some (.p (.bool (sameK ka kb))) else none
theorem od_eqDT : OpD g t rEqDT vEqDT := by
  intro F H v u x y z Q tb i rx ry h q
  unfold vEqDT at h
  cases e1 : dictOf x with
  | none => rw [e1] at h; cases h
  | some ka =>
    rw [e1] at h
    have h' : (dictOf y).bind (fun kb => if allTr ka = true ∧ allTr kb = true then some (Val.p (.bool (sameK ka kb))) else none) = some z := h
    cases e2 : dictOf y with
    | none => rw [e2] at h'; cases h'
    | some kb =>
      rw [e2] at h'
      have h2 : (if allTr ka = true ∧ allTr kb = true then some (Val.p (.bool (sameK ka kb))) else none) = some z := h'
      split at h2
      · rename_i c
        cases h2
        obtain ⟨a, rfl, ra⟩ := dict_at i rx e1
        obtain ⟨b, rfl, rb⟩ := dict_at i ry e2
        exact ⟨a, b, ka, kb, rfl, rfl, ra, rb, c.1, c.2, q _ _ _ (.refl tb i) (R.bl _)⟩
      · cases h2
end
end DL

set_option maxHeartbeats 4000000
namespace DL
open PySem PySem.Spec PyProof.Rows L2
section
variable {X : Cx} {g : Cg} {t : Ct} {E : XK} {pos : Pos} {k j : Nat}
/-- return [e, ..], a list of one's own that is handed over -/
def sRetLk (xs : List Val) : SS := fun ρ dc => match vLst xs with
  | some (.p (.list ds)) => .ok (.rt (.ol ds), ρ, dc)
  | _ => .stuck
def sRetL (f : SM (List Val)) : SS := SM.thn f sRetLk
theorem ds_retL {es : List Expr} {f : SM (List Val)} {p2 : Pos} (he : DA X g t E es f) : DS X g t E (.Return (some (.List es p2)) pos) (sRetL f) := by
  obtain ⟨te, pe, ee⟩ := he
  refine ⟨_, ps_ret (pe_lst pe), fun ρ dc F σ H D s hp => ?_⟩
  refine ee.thn s hp fun xs a dc1 F1 H1 g1 s1 r1 hp1 => ?_
  unfold sRetLk at hp1
  split at hp1
  · rename_i ds hd
    unfold vLst at hd
    split at hd
    · rename_i hl
      cases q : datas a with
      | none => rw [q] at hd; cases hd
      | some es' =>
        rw [q] at hd
        cases hd
        refine ⟨sz (by rw [r1.len]; exact hl), fun p hp => ?_⟩
        have s2 := s1.fresh hp (.lst xs)
        exact hp1 (.ref p) F1 _ s2.gr s2.dice ⟨p, xs, rfl, s1.mine hp, upd_same, datas_ra r1 q⟩
    · cases hd
  · exact hp1.elim
/-! ### a call with fresh dice -/
def dice3 : Val → Option Dc
  | .ol [.int a, .int b, .int c] => some (a, b, c)
  | _ => none
def eDiced (n : Nat) (fm fm2 : FM) (fr : SM (List Val)) : SE := fun ρ dc => match fr ρ dc with
  | .ok (xs, dc') => if xs.length = n ∧ xs.all Val.arg = true then match fm2 xs dc' with
    | .ok (x, dc2) => match dice3 x with
      | some d => match fm [.dice] d with
        | .ok (.p v, _) => .ok (.p v, dc2)
        | _ => .stuck
      | none => .stuck
    | _ => .stuck
    else .stuck
  | .exn n => .exn n
  | .stuck => .stuck
theorem grX_new {T : Tbs} {H H1 H2 : Hp} {a : Addr} (g1 : GrX T none H H1) (g2 : GrX T (some a) H1 H2) (hn : H a = none) : GrX T none H H2 :=
  ⟨fun b o e n ne => g2.ext b o (g1.ext b o e n ne) n (fun z => by cases z; rw [hn] at e; cases e), fun b e => g1.dom b (g2.dom b e), g2.tab, fun b ps e => let ⟨p1, e1⟩ := g1.tbl b ps e; g2.tbl b p1 e1⟩
theorem gr_new {T : Tbs} {F H F1 H1 F2 H2 : Hp} {a : Addr} (g1 : Gr T none F H F1 H1) (g2 : Gr T (some a) F1 H1 F2 H2) (hn : H a = none) : Gr T none F H F2 H2 where
  toGrX := grX_new g1.toGrX g2.toGrX hn
  sub := fun b o e => g2.sub b o (g1.sub b o e)
  inc := g2.inc
  new := fun b o e => by
    rcases g2.new b o e with z | ⟨z1, z2⟩
    · exact g1.new b o z
    · exact .inr ⟨g1.dom b z1, z2⟩
  tups := fun b xs e => by
    rcases g2.tups b xs e with z | z
    · exact .inl z
    · rcases g1.tups b xs z with z | z
      · exact .inl (g2.sub _ _ z)
      · exact .inr z
theorem de_diced {x y : Str} {fm fm2 : FM} {q : Str} {ps : List Str} {e : Expr} {es : List Expr} {fr : SM (List Val)} {p p2 pos2 : Pos} {j2 : Nat} (F : DefOk g X.prog X.w X.K X.mg X.base j x [q] fm) (F' : DefOk g X.prog X.w X.K X.mg X.base j2 y ps fm2) (hr : Room k X.A) (hx : Passes (L2.CX X.prog X.w) X E) (had : t.ad = none) (ha : DA X g t E (e :: es) fr)
    (hjk : j ≤ k := by decide) (hjk2 : j2 ≤ k := by decide) (hg : Gl X x := by rfl) (hg2 : Gl X y := by rfl) (hdb : (x == ("__debug__" : Str)) = false := by decide) (hdb2 : (y == ("__debug__" : Str)) = false := by decide)
    (he : starEach (.Call (.Name y p2) (e :: es) [] pos2 :: []) X.env = (false, eval (.Call (.Name y p2) (e :: es) [] pos2) X.env) :: starEach [] X.env := by rfl) (hpl : (backTo pos (starEach [] X.env)).any (·.1) = false := by rfl)
    (he2 : starEach (e :: es) X.env = (false, eval e X.env) :: starEach es X.env := by rfl) (hpl2 : (backTo pos2 (starEach es X.env)).any (·.1) = false := by rfl) :
    DE X g t E (.Call (.Name x p) [.Call (.Name y p2) (e :: es) [] pos2] [] pos) (eDiced ps.length fm fm2 fr) := by
  obtain ⟨f, fd, h1, h2, h3, h4⟩ := F
  obtain ⟨f', fd', i1, i2, i3, i4⟩ := F'
  obtain ⟨ta, pa, ea⟩ := ha
  have bind1 : ∀ {fd : FuncData} {ps : List Str}, (∀ us ws : List Value, us.length + ws.length = ps.length → bindArgs fd ⟨us, (ps.drop us.length).zip ws⟩ = pure (ps.zip (us ++ ws))) → L2.Binds X.K fd ps [] := fun h => Binds.all fun us hl => by
    have := h us [] (by simpa using hl)
    rw [List.zip_nil_right, List.append_nil] at this
    exact this
  refine ⟨_, pe_call (h3.mono hjk) hr hg h1 h2 (bind1 h4) .nil hx (pa_cons (pe_call (i3.mono hjk2) hr hg2 i1 i2 (bind1 i4) .nil hx pa hdb2 he2 hpl2) pa_nil he) hdb he hpl, fun ρ dc F σ H Q s hp => ?_⟩
  unfold eDiced at hp
  refine ea ρ dc F σ H _ s ?_
  split at hp
  · rename_i xs dc' e1
    rw [e1]
    intro vs F1 H1 g1 d1 r1
    have s1 := s.gr' g1 d1
    split at hp
    · rename_i hxs
      rw [List.append_nil]
      refine ⟨F1, xs, t.ad, dc', hxs.1, s1.inc, s1.nt, s1.tup, s1.tab, VRs.argT (t := t) (t' := ⟨F1, H1, t.ad⟩) (by rfl) (fun a ns h1 h2 => sql_gr s1.gr.toGrX h1 h2) r1 hxs.2, hxs.2, (fun b hb => by rw [had] at hb; cases hb), ?_⟩
      split at hp
      · rename_i x2 dc2 e2
        rw [e2]
        intro v F2 H2 g2 d2 r2
        split at hp
        · rename_i d e3
          have e4 : x2 = .ol [.int d.1, .int d.2.1, .int d.2.2] := by
            unfold dice3 at e3
            split at e3
            · cases e3; rfl
            · cases e3
          subst e4
          obtain ⟨a, us, rfl, hm, hH, hra⟩ := r2
          have e5 := ra_ints (ns := [d.1, d.2.1, d.2.2]) hra
          subst e5
          have g2' : Gr g.T t.ad F1 H1 F2 H2 := g2
          have s2 := s1.gr' g2' (fun b hb => by rw [had] at hb; cases hb) (dc' := dc2)
          split at hp
          · rename_i w dc3 e6
            show spD g [q].length fm ([V.ref a] ++ []) H2 Q E
            rw [List.append_nil]
            refine ⟨F2, [.dice], some a, d, rfl, s2.inc, s2.nt, s2.tup, s2.tab, .cons ⟨a, rfl, rfl⟩ .nil, rfl, (fun b hb => by cases hb; exact ⟨hm.1, hH⟩), ?_⟩
            rw [e6]
            intro u F3 H3 g3 d3 r3
            rw [had] at g1 g2'
            have g23 := gr_new g2' g3 hm.2.1
            refine hp u F3 H3 (by rw [had]; exact g1.trans g23) (fun b hb => by rw [had] at hb; cases hb) r3
          · exact hp.elim
        · exact hp.elim
      · exact hp.elim
    · exact hp.elim
  · rename_i n e1
    rw [e1]
    exact hp
  · exact hp.elim
end
end DL

set_option maxHeartbeats 4000000
namespace DL
open PySem PySem.Spec PyProof.Rows L2
/-! ### the text of a def -/
structure FunD (K : PySem.W.Frag) (mg : Str → Option Value) (x : Str) (st : Stmt) : Prop where
  ex : ∃ (f : Addr) (oc : Value) (od : Option Addr) (kV doc pm : Value) (an : Option Addr) (cdv ct : Value) (osl : Array (Option Value)),
    mg x = some (.ref f) ∧ PySem.W.keepIn K (.ref f) = true ∧ K.lookup f = some ⟨oc, od, .func (PySem.W.fnOf x x (defArgs st) (defBody st) (defScope st) .none kV doc pm an cdv ct), osl⟩ ∧ PySem.W.codeIn K cdv x = true
/-- .. whose code object has a table: none: of generator expressions; some q: of lambdas -/
structure FunT (g : Cg) (K : PySem.W.Frag) (mg : Str → Option Value) (base : Heap) (x : Str) (st : Stmt) (q : Option Str) (c P : Addr) : Prop where
  ex : ∃ (f : Addr) (oc : Value) (od : Option Addr) (kV doc pm : Value) (an : Option Addr) (ct : Value) (osl : Array (Option Value)),
    mg x = some (.ref f) ∧ PySem.W.keepIn K (.ref f) = true ∧ K.lookup f = some ⟨oc, od, .func (PySem.W.fnOf x x (defArgs st) (defBody st) (defScope st) .none kV doc pm an (.ref c) ct), osl⟩ ∧ PySem.W.codeIn K (.ref c) x = true
  code : PySem.W.CodeHd base c P
  bm : base.BuiltinsAt mg P
  gP : mainGlobals ≠ P
  mem : ((P, q) : Addr × Option Str) ∈ g.T
  uni : ∀ p ∈ g.T, p.1 = P → p.2 = q
section
variable {g : Cg} {P : Program} {w : World} {K : PySem.W.Frag} {mg : Str → Option Value} {base : Heap} {x : Str} {st : Stmt} {k : Nat} {N ps : List Str} {sb : SS} {c T : Addr} {q : Option Str}
abbrev BindOk (x : Str) (st : Stmt) (ps : List Str) : Prop := ∀ (kV doc pm : Value) (an : Option Addr) (cdv ct : Value) (us ws : List Value), us.length + ws.length = ps.length →
  bindArgs (PySem.W.fnOf x x (defArgs st) (defBody st) (defScope st) .none kV doc pm an cdv ct) ⟨us, (ps.drop us.length).zip ws⟩ = pure (ps.zip (us ++ ws))
abbrev cxD (P : Program) (w : World) (K : PySem.W.Frag) (mg : Str → Option Value) (base : Heap) (N : List Str) (x : Str) (st : Stmt) (f : Addr) (cdv : Value) (A : Around) (outer : List Env) (s : Shared) (H : Hp) (E : XK) : Cx :=
  cxOf (L2.CX P w) P w K mg base N x (defScope st) f cdv A outer s H E
theorem FunD.ok (F : FunD K mg x st) (S : FnScope N ps (defScope st)) (B : BindOk x st ps)
    (hb : ∀ (f : Addr) (cdv : Value) (A : Around) (outer : List Env) (s : Shared) (H : Hp) (E : XK) (t : Ct), Room k (cxD P w K mg base N x st f cdv A outer s H E).A → DSs (cxD P w K mg base N x st f cdv A outer s H E) g t E (defBody st) sb) :
    DefOk g P w K mg base (k + 1) x ps (fnM N.length sb) := by
  obtain ⟨f, oc, od, kV, doc, pm, an, cdv, ct, osl, h1, h2, h3, h4⟩ := F.ex
  exact ⟨f, _, h1, h2, fn_D h3 h4 S fun A outer s H E t hr => hb f cdv A outer s H E t hr, fun us ws hl => B kV doc pm an cdv ct us ws hl⟩
theorem FunT.ok (F : FunT g K mg base x st q c T) (S : FnScope N ps (defScope st)) (B : BindOk x st ps)
    (hb : ∀ (f : Addr) (A : Around) (outer : List Env) (s : Shared) (H : Hp) (E : XK) (t : Ct), Room k (cxD P w K mg base N x st f (.ref c) A outer s H E).A → DSs (cxD P w K mg base N x st f (.ref c) A outer s H E) g t E (defBody st) sb) :
    DefOk g P w K mg base (k + 1) x ps (fnM N.length sb) := by
  obtain ⟨f, oc, od, kV, doc, pm, an, ct, osl, h1, h2, h3, h4⟩ := F.ex
  exact ⟨f, _, h1, h2, fn_D h3 h4 S fun A outer s H E t hr => hb f A outer s H E t hr, fun us ws hl => B kV doc pm an (.ref c) ct us ws hl⟩
theorem FunT.tg (F : FunT g K mg base x st q c T) : GxR.TabB base mg c T := ⟨F.code, F.bm, F.gP⟩
theorem FunT.tl (F : FunT g K mg base x st q c T) : LamX.TabB base mg c T := ⟨F.code, F.bm, F.gP⟩
end
/-- `_law_refused` -/
structure FunR (K : PySem.W.Frag) (mg : Str → Option Value) : Prop where
  ex : ∃ (gf : Addr) (oc : Value) (od : Option Addr) (pg : Arguments) (pe pa pc ph pn pr pt p1 p2 p3 p4 p5 p6 : Pos) (j : Nat) (kV doc pm : Value) (an : Option Addr) (cdv ct : Value) (osl : Array (Option Value)),
    mg "_law_refused" = some (.ref gf) ∧ PySem.W.keepIn K (.ref gf) = true ∧ K.lookup gf = some ⟨oc, od, .func (PySem.W.fnOf "_law_refused" "_law_refused" pg (tellB pe pa pc ph pn pr pt p1 p2 p3 p4 p5 p6 j) tellS .none kV doc pm an cdv ct), osl⟩ ∧ PySem.W.codeIn K cdv "_law_refused" = true ∧
    L2.Binds K (PySem.W.fnOf "_law_refused" "_law_refused" pg (tellB pe pa pc ph pn pr pt p1 p2 p3 p4 p5 p6 j) tellS .none kV doc pm an cdv ct) ["call"] []
section
variable {X : Cx} {g : Cg} {t : Ct} {E : XK} {k : Nat}
theorem de_told {c P fI : Addr} {body : Expr} {params : Arguments} {scope : Scope} {fb : SE} {p lpos pos : Pos} {x : Str} {st : Stmt} (Tx : PySem.BadX.BadTxt X.prog X.K X.mg g.C fI) (hr : Room (k + 2) X.A) (FR : FunR X.K X.mg)
    (F : FunT g X.K X.mg X.base x st (some (X.env.qual ++ "<lambda>")) c P) (hcode : X.env.code = .ref c) (L : LamX.lamSB X.env.scope scope = true)
    (he : ∀ (A : Around) (outer : List Env) (s : Shared) (H : Hp) (E' : XK) (f c' : Addr) (t' : Ct), Room k (LamX.lamCx X A outer s H E' scope f c').A → DE (LamX.lamCx X A outer s H E' scope f c') g t' E' body fb)
    (hg : Gl X "_law_refused" := by rfl) (hdef : defaultsOf params X.env = ([], []) := by rfl)
    (hbind : ∀ (q : Str) (cl : List (Str × Addr)) (pm cv ctv : Value), bindArgs (PySem.W.kla_fn "<lambda>" q params body scope cl pm cv ctv) ⟨[], []⟩ = pure [] := by intros; rfl) :
    DE X g t E (.Call (.Name "_law_refused" p) [.Lambda params body scope lpos] [] pos) (eTold fb) := by
  obtain ⟨gf, oc, od, pg, pe, pa, pc, ph, pn, pr, pt, p1, p2, p3, p4, p5, p6, j, kV, doc, pm, an, cdv, ct, osl, h1, h2, h3, h4, h5⟩ := FR.ex
  exact de_refused Tx hr h1 h2 h3 h4 h5 F.tl hcode F.mem F.uni (LamX.lamS_by L) (fun A outer s H E' f c' t' hr' => he A outer s H E' f c' t' hr') hg hdef hbind
end
end DL

set_option maxHeartbeats 4000000
namespace DL
open PySem PySem.Spec PyProof.Rows L2
/-! ### the law's own def: no dice are handed to it -/
def spD0 (g : Cg) (n : Nat) (fm : FM) : Sp := fun vs H Q E => ∃ F xs dc, xs.length = n ∧ (∀ b o, F b = some o → H b = some o) ∧ (∀ b ps, F b ≠ some (.tbl ps)) ∧ (∀ b xs, H b = some (.tup xs) → F b = some (.tup xs)) ∧ Tb g.T H ∧ VRs g ⟨F, H, none⟩ F H vs xs ∧ xs.all Val.arg = true ∧ PostC g none F H (fm xs dc) Q E
def LawOk (g : Cg) (P : Program) (w : World) (K : PySem.W.Frag) (mg : Str → Option Value) (base : Heap) (k : Nat) (x : Str) (ps : List Str) (fm : FM) (f : Addr) (fd : FuncData) : Prop :=
  FnOk P w K mg base (L2.CX P w) k f fd ps (spD0 g ps.length fm)
theorem fn_D0 {g : Cg} {P : Program} {w : World} {K : PySem.W.Frag} {mg : Str → Option Value} {base : Heap} {k : Nat} {f : Addr} {name qual : Str} {params : Arguments} {body : List Stmt} {scope : Scope} {dV kV doc pm cdv ct oc : Value} {an od : Option Addr}
    {osl : Array (Option Value)} {N ps : List Str} {sb : SS} (lk : K.lookup f = some ⟨oc, od, .func (PySem.W.fnOf name qual params body scope dV kV doc pm an cdv ct), osl⟩) (hcd : PySem.W.codeIn K cdv qual = true) (S : FnScope N ps scope)
    (hb : ∀ (A : Around) (outer : List Env) (s : Shared) (H : Hp) (E : XK) (t : Ct), t.ad = none → Room k (A.deeper (envOfC qual scope s.heap.objs.size f cdv)) → DSs (cxOf (L2.CX P w) P w K mg base N qual scope f cdv A outer s H E) g t E body sb) :
    FnOk P w K mg base (L2.CX P w) (k + 1) f (PySem.W.fnOf name qual params body scope dV kV doc pm an cdv ct) ps (spD0 g ps.length (fnM N.length sb)) := by
  refine fn_of lk hcd S (fun vs H Q E h => ?_) fun A outer s H vs Q E hr h => ?_
  · obtain ⟨F, xs, dc, h1, _, _, _, _, h2, _⟩ := h
    rw [h2.len, h1]
  · obtain ⟨F, xs, dc, h1, i, nt, tp, tb, r, ha, hp⟩ := h
    obtain ⟨ts, p, e⟩ := hb A outer s H E ⟨F, H, none⟩ rfl hr
    refine ⟨ts, p, e _ dc F _ H _ (start_sr i nt tp tb r ha fun a z => by cases z) ?_⟩
    unfold fnM at hp
    cases q : sb (xs.map some ++ List.replicate (N.length - xs.length) none) dc with
    | ok a =>
      obtain ⟨fl, ρ', dc'⟩ := a
      rw [q] at hp
      cases fl with
      | nx => exact fun F' σ' H' _ s' => hp .non F' H' s'.gr (fun b z => by cases z) R.non
      | bk => exact hp.elim
      | rt x => exact fun v F' H' gr d' rv => hp v F' H' gr (fun b z => by cases z) rv
    | exn n => rw [q] at hp; exact hp
    | stuck => rw [q] at hp; exact hp.elim
section
variable {g : Cg} {P : Program} {w : World} {K : PySem.W.Frag} {mg : Str → Option Value} {base : Heap} {x : Str} {st : Stmt} {k : Nat} {N ps : List Str} {sb : SS}
theorem fun_law {f : Addr} {oc : Value} {od : Option Addr} {kV doc pm : Value} {an : Option Addr} {cdv ct : Value} {osl : Array (Option Value)}
    (h3 : K.lookup f = some ⟨oc, od, .func (PySem.W.fnOf x x (defArgs st) (defBody st) (defScope st) .none kV doc pm an cdv ct), osl⟩) (h4 : PySem.W.codeIn K cdv x = true) (S : FnScope N ps (defScope st))
    (hb : ∀ (f : Addr) (cdv : Value) (A : Around) (outer : List Env) (s : Shared) (H : Hp) (E : XK) (t : Ct), t.ad = none → Room k (cxD P w K mg base N x st f cdv A outer s H E).A → DSs (cxD P w K mg base N x st f cdv A outer s H E) g t E (defBody st) sb) :
    LawOk g P w K mg base (k + 1) x ps (fnM N.length sb) f (PySem.W.fnOf x x (defArgs st) (defBody st) (defScope st) .none kV doc pm an cdv ct) := fn_D0 h3 h4 S fun A outer s H E t had hr => hb f cdv A outer s H E t had hr
def tupsH (H : Hp) : Hp := fun b => match H b with
  | some (.tup xs) => some (.tup xs)
  | _ => none
/-- a law's promise: every script is answered with True -/
theorem law_sp {g : Cg} {fm : FM} {H : Hp} {a : Addr} {ns : List Int} (tb : Tb g.T H) (hs : SqL g.K H a (ns.map V.int)) (h : ∃ dc, ∃ dc', fm [.scr ns] dc = .ok (.p (.bool true), dc')) : spD0 g 1 fm [.ref a] H (fun v _ => v = .bl true) fun _ _ _ => False := by
  obtain ⟨dc, dc', e⟩ := h
  refine ⟨tupsH H, [.scr ns], dc, rfl, fun b o q => ?_, fun b ps q => ?_, fun b xs q => ?_, tb, .cons ⟨a, rfl, hs, fun z => by cases z⟩ .nil, rfl, ?_⟩
  · unfold tupsH at q
    split at q
    · rename_i xs e; rw [← q]; exact e
    · cases q
  · unfold tupsH at q
    split at q
    · cases q
    · cases q
  · unfold tupsH
    rw [q]
  · unfold PostC
    rw [e]
    exact fun v F' H' _ _ r => vr_bool (g := g) (t := ⟨F', H', none⟩) (F := F') (H := H') r
end
end DL

set_option maxHeartbeats 4000000
namespace DL
open PySem PySem.Spec PyProof.Rows L2
section
variable {X : Cx} {g : Cg} {t : Ct} {E : XK} {pos : Pos}
/-- x *= e, numbers of any size -/
theorem iop_mulW : OpR X (inplaceOp .Mult) (rI CMulW fun i j => .int (i * j)) := opI fun _ _ _ _ _ _ _ hw q => imul_int q (CMulW.ok hw)
/-- fuel: the number in a slot -/
def fuelI (i : Nat) (ρ : Rho) : Nat := match ρ[i]? with
  | some (some (.p (.int n))) => n.toNat + 1
  | _ => 0
theorem vLst_some {xs : List Val} {ds : List PyData} (h : vLst xs = some (.p (.list ds))) : xs.length ≤ 100000 ∧ datas xs = some ds := by
  unfold vLst at h
  split at h
  · rename_i hl
    cases q : datas xs with
    | none => rw [q] at h; cases h
    | some es => rw [q] at h; cases h; exact ⟨hl, rfl⟩
  · cases h
def sParLk (i j : Nat) (x : Val) (ys : List Val) : SS := fun ρ dc => match x.frz, vLst ys with
  | some x', some (.p (.list ds)) => .ok (.nx, (ρ.set i (some x')).set j (some (.ol ds)), dc)
  | _, _ => .stuck
/-- a, b = x, [..], the list one's own -/
def sParL (i j : Nat) (f : SE) (fr : SM (List Val)) : SS := SM.thn f fun x => SM.thn fr fun ys => sParLk i j x ys
theorem ds_parL {i j : Nat} {x y : Str} {a : Expr} {es : List Expr} {f : SE} {fr : SM (List Val)} {px py pt pt2 pl : Pos} {kt k2} (hN : X.N.Nodup) (ha : DE X g t E a f) (hes : DA X g t E es fr)
    (hw : swappedStores [.Tuple [.Name x px, .Name y py] kt pt] (.Tuple [a, .List es pl] k2 pt2) X.env = pure (some [x, y]) := by rfl) (hc : X.calm = true := by rfl) (hi : X.N[i]? = some x := by rfl) (hj : X.N[j]? = some y := by rfl) (hij : i ≠ j := by decide)
    (hx : X.env.scope.names.lookup x = some .local := by rfl) (hy : X.env.scope.names.lookup y = some .local := by rfl)
    (hs : swapsWithSole [.Tuple [.Name x px, .Name y py] kt pt] (.Tuple [a, .List es pl] k2 pt2) pos.line X.env = pure false := by rfl)
    (h1 : starEach [a, .List es pl] X.env = (false, eval a X.env) :: starEach [.List es pl] X.env := by rfl) (h2 : starEach [.List es pl] X.env = (false, eval (.List es pl) X.env) :: starEach [] X.env := by rfl) :
    DS X g t E (.Assign [.Tuple [.Name x px, .Name y py] kt pt] (.Tuple [a, .List es pl] k2 pt2) pos) (sParL i j f fr) := by
  obtain ⟨ta, pa, ea⟩ := ha
  obtain ⟨tb, pb, eb⟩ := hes
  refine ⟨_, ps_par hc hN hi hj hij hx hy (pa_cons pa (pa_cons (pe_lst pb) pa_nil h2) h1) hw hs, fun ρ dc F σ H D s hp => ?_⟩
  refine ea.thn s hp fun v xa dc1 F1 H1 g1 s1 r1 hp1 => ?_
  refine eb.thn s1 hp1 fun vs ys dc2 F2 H2 g2 s2 r2 hp2 => ?_
  unfold sParLk at hp2
  split at hp2
  · rename_i x' ds hf hd
    obtain ⟨hl, q⟩ := vLst_some hd
    have s3 := s2.setF (i := i) (r1.gr g2) hf
    refine ⟨sz (by rw [r2.len]; exact hl), fun p hp => ?_⟩
    refine ⟨v, .ref p, rfl, ?_⟩
    exact hp2 F2 _ _ (fun _ _ q => q) ((s3.fresh hp (.lst vs)).set ⟨p, vs, rfl, s2.mine hp, upd_same, datas_ra r2 q⟩ fun j y w hj e o _ hw => s3.ownNe hp e o hw)
  · exact hp2.elim
end
end DL

set_option maxHeartbeats 4000000
/-! ### k02: the defs, printed by gen.py -/
namespace K02
open PySem PySem.Spec PyProof.Rows L2 DL
def top (i : Nat) : Stmt := PySem.Challenge.pw_organranks_k02_whole_tunings.main.body.getD i (.Pass ⟨0, 0, 0, 0⟩)
structure Txt (g : Cg) (P : Program) (w : World) (K : PySem.W.Frag) (mg : Str → Option Value) (base : Heap) (fI : Addr) : Prop where
  hK : g.K = K
  bad : PySem.BadX.BadTxt P K mg g.C fI
  refused : FunR K mg
  b_abs : mg "abs" = none
  b_all : mg "all" = none
  b_bool : mg "bool" = none
  b_int : mg "int" = none
  b_isinstance : mg "isinstance" = none
  b_len : mg "len" = none
  b_max : mg "max" = none
  b_min : mg "min" = none
  b_range : mg "range" = none
  b_set : mg "set" = none
  b_sorted : mg "sorted" = none
  b_tuple : mg "tuple" = none
  c_MOST_ABOVE : ∃ u, mg "MOST_ABOVE" = some (.int 1000000000 u)
  c_MOST_STEP : ∃ u, mg "MOST_STEP" = some (.int 60 u)
  c_MOST_TONES : ∃ u, mg "MOST_TONES" = some (.int 12 u)
  f__law_roll : FunD K mg "_law_roll" (top 31)
  f__law_sorted : FunD K mg "_law_sorted" (top 38)
  f__law_gcd : FunD K mg "_law_gcd" (top 34)
  f__law_frac : FunD K mg "_law_frac" (top 35)
  f__law_folded : FunD K mg "_law_folded" (top 37)
  f__law_moved : FunD K mg "_law_moved" (top 43)
  f__law_pick : FunD K mg "_law_pick" (top 32)
  f__law_power : FunD K mg "_law_power" (top 36)
  f__law_fifths : FunD K mg "_law_fifths" (top 39)
  f__law_tuning : FunD K mg "_law_tuning" (top 40)
  f__law_speed : FunD K mg "_law_speed" (top 41)
  f_is_less : FunD K mg "is_less" (top 8)
  f_common : FunD K mg "common" (top 5)
  f_ratio : FunD K mg "ratio" (top 6)
  f_is_integer : FunD K mg "is_integer" (top 3)
  t_is_fraction : ∃ c P, FunT g K mg base "is_fraction" (top 10) none c P
  t_is_tuning : ∃ c P, FunT g K mg base "is_tuning" (top 15) none c P
  f_need_tuning : FunD K mg "need_tuning" (top 16)
  f_need_integer : FunD K mg "need_integer" (top 4)
  f_power : FunD K mg "power" (top 19)
  f_speed : FunD K mg "speed" (top 21)
  f_interval : FunD K mg "interval" (top 22)
  f_size : FunD K mg "size" (top 9)
  f_plus : FunD K mg "plus" (top 7)
  f_beats : FunD K mg "beats" (top 23)
  f__law_beats : FunD K mg "_law_beats" (top 42)
  f_pure_pairs : FunD K mg "pure_pairs" (top 24)
  f_nearest : FunD K mg "nearest" (top 25)
  f_in_octave : FunD K mg "in_octave" (top 17)
  f_comma : FunD K mg "comma" (top 26)
  f_in_order : FunD K mg "in_order" (top 20)
  f_moved : FunD K mg "moved" (top 27)
  f_same_moved : FunD K mg "same_moved" (top 28)
  f_by_fifths : FunD K mg "by_fifths" (top 18)
  t__law_right : ∃ c P, FunT g K mg base "_law_right" (top 44) (some ("_law_right.<locals>." ++ "<lambda>")) c P
  f__law_dice : FunD K mg "_law_dice" (top 30)
  f_law : FunD K mg "law" (top 45)
variable {g : Cg} {P : Program} {w : World} {K : PySem.W.Frag} {mg : Str → Option Value} {base : Heap} {fI : Addr}
def sb__law_roll : SS :=
  (sSeq (sIf (tstV (eBin vGt (eDice 0 0) (eP (.int 0)))) (sSeq (sSet 2 (eBin vMod (eCall vInt1 (aCons (eDice 0 0) aNil)) (eVar 1)))
    (sSeq (sDice 0 0 (eBin vDiv (eDice 0 0) (eVar 1)))
    (sRet (eVar 2)))) sNx)
  (sSeq (sDice 0 2 (eBin vAdd (eDice 0 2) (eP (.int 1))))
  (sSeq (sDice 0 1 (eBin vMod (eCall vInt1 (aCons (eBin vAdd (eBin vAdd (eBin vMul (eDice 0 1) (eP (.int 52501))) (eBin vMul (eBin vMul (eDice 0 2) (eDice 0 2)) (eP (.int 1009)))) (eP (.int 77))) aNil)) (eP (.int 2147480009))))
  (sRet (eBin vMod (eCall vInt1 (aCons (eBin vDiv (eDice 0 1) (eP (.int 211))) aNil)) (eVar 1))))))
def fm__law_roll : FM := fnM 3 sb__law_roll
theorem sc__law_roll : FnScope (["dice", "many", "found"] : List Str) ["dice", "many"] (defScope (top 31)) := ⟨rfl, rfl, rfl, by decide +kernel, rfl, by decide +kernel, by decide +kernel⟩
theorem bd__law_roll : BindOk "_law_roll" (top 31) ["dice", "many"] := by
  intro kV doc pm an cdv ct us ws hl
  have h : (us.length = 0 ∧ ws.length = 2) ∨ (us.length = 1 ∧ ws.length = 1) ∨ (us.length = 2 ∧ ws.length = 0) := by simp only [List.length_cons, List.length_nil] at hl; omega
  rcases h with ⟨h1, h2⟩ | ⟨h1, h2⟩ | ⟨h1, h2⟩
  · match us, h1, ws, h2 with
    | [], _, [_, _], _ => rfl
  · match us, h1, ws, h2 with
    | [_], _, [_], _ => rfl
  · match us, h1, ws, h2 with
    | [_, _], _, [], _ => rfl
theorem ok__law_roll (T : Txt g P w K mg base fI) : DefOk g P w K mg base 1 "_law_roll" ["dice", "many"] fm__law_roll := by
  have sc := sc__law_roll
  exact T.f__law_roll.ok sc bd__law_roll fun f cdv A outer s H E t hr =>
  (dss_cons (ds_if (dt_cmp op_gt od_gt (by first | rfl | with_unfolding_all rfl) (de_dice (i := 0) (kk := 0)) de_int) (dss_cons (ds_set (i := 2) sc.nd (de_bin op_mod od_mod (de_callTy call_int1 cd_int T.b_int (by decide +kernel) (da_cons (de_dice (i := 0) (kk := 0)) da_nil)) (de_var 1)))
    (dss_cons (ds_dice (i := 0) (kk := 0) (de_bin op_fdivW od_div (de_dice (i := 0) (kk := 0)) (de_var 1)))
    (dss_one (ds_ret (de_var 2))))) dss_nil)
  (dss_cons (ds_dice (i := 0) (kk := 2) (de_bin op_addD od_add (de_dice (i := 0) (kk := 2)) de_int))
  (dss_cons (ds_dice (i := 0) (kk := 1) (de_bin op_mod od_mod (de_callTy call_int1 cd_int T.b_int (by decide +kernel) (da_cons (de_bin op_addD od_add (de_bin op_addD od_add (de_bin op_mulW od_mul (de_dice (i := 0) (kk := 1)) de_int) (de_bin op_mulW od_mul (de_bin op_mulW od_mul (de_dice (i := 0) (kk := 2)) (de_dice (i := 0) (kk := 2))) de_int)) de_int) da_nil)) de_int))
  (dss_one (ds_ret (de_bin op_mod od_mod (de_callTy call_int1 cd_int T.b_int (by decide +kernel) (da_cons (de_bin op_fdivW od_div (de_dice (i := 0) (kk := 1)) de_int) da_nil)) (de_var 1)))))))
def sb__law_sorted : SS :=
  (sSeq (sParL 0 1 (eUn vSortSet (eVar 0)) aNil)
  (sSeq (sFor (it1 (eCall vLen (aCons (eVar 0) aNil))) (tgN 2)
  (sSeq (sSet 3 (eBin vIx (eVar 0) (eP (.int 0))))
    (sSeq (sFor (itF (eVar 0)) (tgN 4)
    (sSet 3 (eIf (tstV (eBin vLt (eBin vMul (eBin vIx (eVar 4) (eP (.int 0))) (eBin vIx (eVar 3) (eP (.int 1)))) (eBin vMul (eBin vIx (eVar 3) (eP (.int 0))) (eBin vIx (eVar 4) (eP (.int 1)))))) (eVar 4) (eVar 3))))
    (sSeq (sMutL 1 mAppend (aCons (eVar 3) aNil))
    (sSet 0 (eComp (itS (eVar 0)) (tgN 4) [4] (tstV (eBin vNe (eVar 4) (eVar 3))) (eVar 4)))))))
  (sRet (eCall vTuple1 (aCons (eVar 1) aNil)))))
def fm__law_sorted : FM := fnM 5 sb__law_sorted
theorem sc__law_sorted : FnScope (["rows", "found", "turn", "least", "row"] : List Str) ["rows"] (defScope (top 38)) := ⟨rfl, rfl, rfl, by decide +kernel, rfl, by decide +kernel, by decide +kernel⟩
theorem bd__law_sorted : BindOk "_law_sorted" (top 38) ["rows"] := by
  intro kV doc pm an cdv ct us ws hl
  have h : (us.length = 0 ∧ ws.length = 1) ∨ (us.length = 1 ∧ ws.length = 0) := by simp only [List.length_cons, List.length_nil] at hl; omega
  rcases h with ⟨h1, h2⟩ | ⟨h1, h2⟩
  · match us, h1, ws, h2 with
    | [], _, [_], _ => rfl
  · match us, h1, ws, h2 with
    | [_], _, [], _ => rfl
theorem ok__law_sorted (T : Txt g P w K mg base fI) : DefOk g P w K mg base 1 "_law_sorted" ["rows"] fm__law_sorted := by
  have sc := sc__law_sorted
  exact T.f__law_sorted.ok sc bd__law_sorted fun f cdv A outer s H E t hr =>
  (dss_cons (ds_parL (i := 0) (j := 1) sc.nd (de_sortSet hr T.b_sorted T.b_set (de_var 0)) da_nil)
  (dss_cons (ds_for (di_r1 T.b_range (de_callB call_lenX cd_len T.b_len (by decide +kernel) (da_cons (de_var 0) da_nil))) (dg_name (i := 2) sc.nd)
  (dss_cons (ds_set (i := 3) sc.nd (de_ix (de_var 0) de_int))
    (dss_cons (ds_for (di_seq (de_var 0)) (dg_name (i := 4) sc.nd)
    (dss_one (ds_set (i := 3) sc.nd (de_if (dt_cmp (op_ltD hr) od_lt (by first | rfl | with_unfolding_all rfl) (de_bin op_mulW od_mul (de_ix (de_var 4) de_int) (de_ix (de_var 3) de_int)) (de_bin op_mulW od_mul (de_ix (de_var 3) de_int) (de_ix (de_var 4) de_int))) (de_var 4) (de_var 3)))))
    (dss_cons (ds_mutL (i := 1) F.slot_list_append F.type_list_append mt_append mut_append (da_cons (de_var 3) da_nil))
    (dss_one (ds_setLc (i := 0) sc.nd (blkOk_by (own := [("row", 4)]) (by kernel_rfl)) (by rfl) (dic_seq (de_var 0)) (fun _ _ _ _ _ => (dg_name (i := 4) sc.nd)) (fun _ _ _ _ _ => (dts_one (dt_cmp (op_neX hr) od_ne (by first | rfl | with_unfolding_all rfl) (de_var 4) (de_var 3)))) (fun _ _ _ _ _ => (de_var 4))))))))
  (dss_one (ds_ret (de_callTy call_tuple_of cd_tuple T.b_tuple (by decide +kernel) (da_cons (de_var 1) da_nil))))))
def sb__law_gcd : SS :=
  (sSeq (sPar 0 1 (aCons (eCall vAbs (aCons (eVar 0) aNil)) (aCons (eCall vAbs (aCons (eVar 1) aNil)) aNil)))
  (sSeq (sFor (it1 (eP (.int 400))) (tgN 2)
  (sSeq (sIf (tstV (eBin vEq (eVar 1) (eP (.int 0)))) sBk sNx)
    (sPar 0 1 (aCons (eVar 1) (aCons (eBin vMod (eVar 0) (eVar 1)) aNil)))))
  (sRet (eVar 0))))
def fm__law_gcd : FM := fnM 3 sb__law_gcd
theorem sc__law_gcd : FnScope (["one", "other", "turn"] : List Str) ["one", "other"] (defScope (top 34)) := ⟨rfl, rfl, rfl, by decide +kernel, rfl, by decide +kernel, by decide +kernel⟩
theorem bd__law_gcd : BindOk "_law_gcd" (top 34) ["one", "other"] := by
  intro kV doc pm an cdv ct us ws hl
  have h : (us.length = 0 ∧ ws.length = 2) ∨ (us.length = 1 ∧ ws.length = 1) ∨ (us.length = 2 ∧ ws.length = 0) := by simp only [List.length_cons, List.length_nil] at hl; omega
  rcases h with ⟨h1, h2⟩ | ⟨h1, h2⟩ | ⟨h1, h2⟩
  · match us, h1, ws, h2 with
    | [], _, [_, _], _ => rfl
  · match us, h1, ws, h2 with
    | [_], _, [_], _ => rfl
  · match us, h1, ws, h2 with
    | [_, _], _, [], _ => rfl
theorem ok__law_gcd (T : Txt g P w K mg base fI) : DefOk g P w K mg base 1 "_law_gcd" ["one", "other"] fm__law_gcd := by
  have sc := sc__law_gcd
  exact T.f__law_gcd.ok sc bd__law_gcd fun f cdv A outer s H E t hr =>
  (dss_cons (ds_par (i := 0) (j := 1) sc.nd (da_cons (de_callB call_abs cd_abs T.b_abs (by decide +kernel) (da_cons (de_var 0) da_nil)) (da_cons (de_callB call_abs cd_abs T.b_abs (by decide +kernel) (da_cons (de_var 1) da_nil)) da_nil)))
  (dss_cons (ds_for (di_r1 T.b_range de_int) (dg_name (i := 2) sc.nd)
  (dss_cons (ds_if (dt_cmp (op_eqX hr) od_eq (by first | rfl | with_unfolding_all rfl) (de_var 1) de_int) (dss_one ds_break) dss_nil)
    (dss_one (ds_par (i := 0) (j := 1) sc.nd (da_cons (de_var 1) (da_cons (de_bin op_mod od_mod (de_var 0) (de_var 1)) da_nil))))))
  (dss_one (ds_ret (de_var 0)))))
def sb__law_frac : SS :=
  (sSeq (sSet 2 (eApp 2 fm__law_gcd (aCons (eVar 0) (aCons (eVar 1) aNil))))
  (sRet (eTup (aCons (eBin vDiv (eVar 0) (eVar 2)) (aCons (eBin vDiv (eVar 1) (eVar 2)) aNil)))))
def fm__law_frac : FM := fnM 3 sb__law_frac
theorem sc__law_frac : FnScope (["above", "below", "divisor"] : List Str) ["above", "below"] (defScope (top 35)) := ⟨rfl, rfl, rfl, by decide +kernel, rfl, by decide +kernel, by decide +kernel⟩
theorem bd__law_frac : BindOk "_law_frac" (top 35) ["above", "below"] := by
  intro kV doc pm an cdv ct us ws hl
  have h : (us.length = 0 ∧ ws.length = 2) ∨ (us.length = 1 ∧ ws.length = 1) ∨ (us.length = 2 ∧ ws.length = 0) := by simp only [List.length_cons, List.length_nil] at hl; omega
  rcases h with ⟨h1, h2⟩ | ⟨h1, h2⟩ | ⟨h1, h2⟩
  · match us, h1, ws, h2 with
    | [], _, [_, _], _ => rfl
  · match us, h1, ws, h2 with
    | [_], _, [_], _ => rfl
  · match us, h1, ws, h2 with
    | [_, _], _, [], _ => rfl
theorem ok__law_frac (T : Txt g P w K mg base fI) : DefOk g P w K mg base 2 "_law_frac" ["above", "below"] fm__law_frac := by
  have sc := sc__law_frac
  exact T.f__law_frac.ok sc bd__law_frac fun f cdv A outer s H E t hr =>
  (dss_cons (ds_set (i := 2) sc.nd (de_call (ok__law_gcd T) hr (passes_call (takes_of rfl rfl rfl rfl) (fun _ _ _ _ h => h)) (da_cons (de_var 0) (da_cons (de_var 1) da_nil))))
  (dss_one (ds_ret (de_tup (da_cons (de_bin op_fdivW od_div (de_var 0) (de_var 2)) (da_cons (de_bin op_fdivW od_div (de_var 1) (de_var 2)) da_nil))))))
def sb__law_folded : SS :=
  (sSeq (sWh (fuelI 1) (tstV (eBin vLt (eVar 0) (eVar 1))) (sSet 0 (eBin vMul (eP (.int 2)) (eVar 0))))
  (sSeq (sWh (fuelI 0) (tstV (eBin vGe (eVar 0) (eBin vMul (eP (.int 2)) (eVar 1)))) (sSet 1 (eBin vMul (eP (.int 2)) (eVar 1))))
  (sRet (eApp 2 fm__law_frac (aCons (eVar 0) (aCons (eVar 1) aNil))))))
def fm__law_folded : FM := fnM 2 sb__law_folded
theorem sc__law_folded : FnScope (["above", "below"] : List Str) ["above", "below"] (defScope (top 37)) := ⟨rfl, rfl, rfl, by decide +kernel, rfl, by decide +kernel, by decide +kernel⟩
theorem bd__law_folded : BindOk "_law_folded" (top 37) ["above", "below"] := by
  intro kV doc pm an cdv ct us ws hl
  have h : (us.length = 0 ∧ ws.length = 2) ∨ (us.length = 1 ∧ ws.length = 1) ∨ (us.length = 2 ∧ ws.length = 0) := by simp only [List.length_cons, List.length_nil] at hl; omega
  rcases h with ⟨h1, h2⟩ | ⟨h1, h2⟩ | ⟨h1, h2⟩
  · match us, h1, ws, h2 with
    | [], _, [_, _], _ => rfl
  · match us, h1, ws, h2 with
    | [_], _, [_], _ => rfl
  · match us, h1, ws, h2 with
    | [_, _], _, [], _ => rfl
theorem ok__law_folded (T : Txt g P w K mg base fI) : DefOk g P w K mg base 3 "_law_folded" ["above", "below"] fm__law_folded := by
  have sc := sc__law_folded
  exact T.f__law_folded.ok sc bd__law_folded fun f cdv A outer s H E t hr =>
  (dss_cons (ds_while (fuelI 1) (dt_cmp (op_ltD hr) od_lt (by first | rfl | with_unfolding_all rfl) (de_var 0) (de_var 1)) (dss_one (ds_set (i := 0) sc.nd (de_bin op_mulW od_mul de_int (de_var 0)))))
  (dss_cons (ds_while (fuelI 0) (dt_cmp op_ge od_ge (by first | rfl | with_unfolding_all rfl) (de_var 0) (de_bin op_mulW od_mul de_int (de_var 1))) (dss_one (ds_set (i := 1) sc.nd (de_bin op_mulW od_mul de_int (de_var 1)))))
  (dss_one (ds_ret (de_call (ok__law_frac T) hr (passes_call (takes_of rfl rfl rfl rfl) (fun _ _ _ _ h => h)) (da_cons (de_var 0) (da_cons (de_var 1) da_nil)))))))
def sb__law_moved : SS :=
  (sSeq (sSet 2 (eBin vIx (eVar 0) (eVar 1)))
  (sRet (eApp 1 fm__law_sorted (aCons (eComp (itS (eVar 0)) (tgN 3) [3] (SM.ret true) (eApp 2 fm__law_folded (aCons (eBin vMul (eBin vIx (eVar 3) (eP (.int 0))) (eBin vIx (eVar 2) (eP (.int 1)))) (aCons (eBin vMul (eBin vIx (eVar 3) (eP (.int 1))) (eBin vIx (eVar 2) (eP (.int 0)))) aNil)))) aNil))))
def fm__law_moved : FM := fnM 4 sb__law_moved
theorem sc__law_moved : FnScope (["tuning", "tone", "base", "one"] : List Str) ["tuning", "tone"] (defScope (top 43)) := ⟨rfl, rfl, rfl, by decide +kernel, rfl, by decide +kernel, by decide +kernel⟩
theorem bd__law_moved : BindOk "_law_moved" (top 43) ["tuning", "tone"] := by
  intro kV doc pm an cdv ct us ws hl
  have h : (us.length = 0 ∧ ws.length = 2) ∨ (us.length = 1 ∧ ws.length = 1) ∨ (us.length = 2 ∧ ws.length = 0) := by simp only [List.length_cons, List.length_nil] at hl; omega
  rcases h with ⟨h1, h2⟩ | ⟨h1, h2⟩ | ⟨h1, h2⟩
  · match us, h1, ws, h2 with
    | [], _, [_, _], _ => rfl
  · match us, h1, ws, h2 with
    | [_], _, [_], _ => rfl
  · match us, h1, ws, h2 with
    | [_, _], _, [], _ => rfl
theorem ok__law_moved (T : Txt g P w K mg base fI) : DefOk g P w K mg base 4 "_law_moved" ["tuning", "tone"] fm__law_moved := by
  have sc := sc__law_moved
  exact T.f__law_moved.ok sc bd__law_moved fun f cdv A outer s H E t hr =>
  (dss_cons (ds_set (i := 2) sc.nd (de_ix (de_var 0) (de_var 1)))
  (dss_one (ds_ret (de_call (ok__law_sorted T) hr (passes_call (takes_of rfl rfl rfl rfl) (fun _ _ _ _ h => h)) (da_cons (de_lc sc.nd (blkOk_by (own := [("one", 3)]) (by kernel_rfl)) (dic_seq (de_var 0)) (fun _ _ _ _ _ => (dg_name (i := 3) sc.nd)) (fun _ _ _ _ _ => dts_nil) (fun _ _ _ _ _ => (de_call (ok__law_folded T) hr passL (da_cons (de_bin op_mulW od_mul (de_ix (de_var 3) de_int) (de_ix (de_var 2) de_int)) (da_cons (de_bin op_mulW od_mul (de_ix (de_var 3) de_int) (de_ix (de_var 2) de_int)) da_nil))))) da_nil)))))
def sb__law_pick : SS :=
  (sRet (eBin vIx (eVar 1) (eApp 2 fm__law_roll (aCons (eVar 0) (aCons (eCall vLen (aCons (eVar 1) aNil)) aNil)))))
def fm__law_pick : FM := fnM 2 sb__law_pick
theorem sc__law_pick : FnScope (["dice", "things"] : List Str) ["dice", "things"] (defScope (top 32)) := ⟨rfl, rfl, rfl, by decide +kernel, rfl, by decide +kernel, by decide +kernel⟩
theorem bd__law_pick : BindOk "_law_pick" (top 32) ["dice", "things"] := by
  intro kV doc pm an cdv ct us ws hl
  have h : (us.length = 0 ∧ ws.length = 2) ∨ (us.length = 1 ∧ ws.length = 1) ∨ (us.length = 2 ∧ ws.length = 0) := by simp only [List.length_cons, List.length_nil] at hl; omega
  rcases h with ⟨h1, h2⟩ | ⟨h1, h2⟩ | ⟨h1, h2⟩
  · match us, h1, ws, h2 with
    | [], _, [_, _], _ => rfl
  · match us, h1, ws, h2 with
    | [_], _, [_], _ => rfl
  · match us, h1, ws, h2 with
    | [_, _], _, [], _ => rfl
theorem ok__law_pick (T : Txt g P w K mg base fI) : DefOk g P w K mg base 2 "_law_pick" ["dice", "things"] fm__law_pick := by
  have sc := sc__law_pick
  exact T.f__law_pick.ok sc bd__law_pick fun f cdv A outer s H E t hr =>
  (dss_one (ds_ret (de_ix (de_var 1) (de_call (ok__law_roll T) hr (passes_call (takes_of rfl rfl rfl rfl) (fun _ _ _ _ h => h)) (da_cons (de_var 0) (da_cons (de_callB call_lenX cd_len T.b_len (by decide +kernel) (da_cons (de_var 1) da_nil)) da_nil))))))
def sb__law_power : SS :=
  (sSeq (sSet 2 (eP (.int 1)))
  (sSeq (sFor (it1 (eVar 1)) (tgN 3)
  (sSet 2 (eBin vMul (eVar 2) (eVar 0))))
  (sRet (eVar 2))))
def fm__law_power : FM := fnM 4 sb__law_power
theorem sc__law_power : FnScope (["base", "many", "found", "turn"] : List Str) ["base", "many"] (defScope (top 36)) := ⟨rfl, rfl, rfl, by decide +kernel, rfl, by decide +kernel, by decide +kernel⟩
theorem bd__law_power : BindOk "_law_power" (top 36) ["base", "many"] := by
  intro kV doc pm an cdv ct us ws hl
  have h : (us.length = 0 ∧ ws.length = 2) ∨ (us.length = 1 ∧ ws.length = 1) ∨ (us.length = 2 ∧ ws.length = 0) := by simp only [List.length_cons, List.length_nil] at hl; omega
  rcases h with ⟨h1, h2⟩ | ⟨h1, h2⟩ | ⟨h1, h2⟩
  · match us, h1, ws, h2 with
    | [], _, [_, _], _ => rfl
  · match us, h1, ws, h2 with
    | [_], _, [_], _ => rfl
  · match us, h1, ws, h2 with
    | [_, _], _, [], _ => rfl
theorem ok__law_power (T : Txt g P w K mg base fI) : DefOk g P w K mg base 1 "_law_power" ["base", "many"] fm__law_power := by
  have sc := sc__law_power
  exact T.f__law_power.ok sc bd__law_power fun f cdv A outer s H E t hr =>
  (dss_cons (ds_set (i := 2) sc.nd de_int)
  (dss_cons (ds_for (di_r1 T.b_range (de_var 1)) (dg_name (i := 3) sc.nd)
  (dss_one (ds_set (i := 2) sc.nd (de_bin op_mulW od_mul (de_var 2) (de_var 0)))))
  (dss_one (ds_ret (de_var 2)))))
def sb__law_fifths : SS :=
  (sSeq (sOwnL 2 aNil)
  (sSeq (sFor (it2 (eBin vSub (eP (.int 0)) (eVar 0)) (eBin vSub (eVar 1) (eVar 0))) (tgN 3)
  (sSeq (sPar 4 5 (aCons (eCall vMax2 (aCons (eP (.int 0)) (aCons (eVar 3) aNil))) (aCons (eCall vMax2 (aCons (eP (.int 0)) (aCons (eBin vSub (eP (.int 0)) (eVar 3)) aNil))) aNil)))
    (sMutL 2 mAppend (aCons (eApp 2 fm__law_folded (aCons (eBin vMul (eApp 2 fm__law_power (aCons (eP (.int 3)) (aCons (eVar 4) aNil))) (eApp 2 fm__law_power (aCons (eP (.int 2)) (aCons (eVar 5) aNil)))) (aCons (eBin vMul (eApp 2 fm__law_power (aCons (eP (.int 2)) (aCons (eVar 4) aNil))) (eApp 2 fm__law_power (aCons (eP (.int 3)) (aCons (eVar 5) aNil)))) aNil))) aNil))))
  (sFrz 2 (sRet (eApp 1 fm__law_sorted (aCons (eVar 2) aNil))))))
def fm__law_fifths : FM := fnM 6 sb__law_fifths
theorem sc__law_fifths : FnScope (["first", "many", "rows", "fifths", "up", "down"] : List Str) ["first", "many"] (defScope (top 39)) := ⟨rfl, rfl, rfl, by decide +kernel, rfl, by decide +kernel, by decide +kernel⟩
theorem bd__law_fifths : BindOk "_law_fifths" (top 39) ["first", "many"] := by
  intro kV doc pm an cdv ct us ws hl
  have h : (us.length = 0 ∧ ws.length = 2) ∨ (us.length = 1 ∧ ws.length = 1) ∨ (us.length = 2 ∧ ws.length = 0) := by simp only [List.length_cons, List.length_nil] at hl; omega
  rcases h with ⟨h1, h2⟩ | ⟨h1, h2⟩ | ⟨h1, h2⟩
  · match us, h1, ws, h2 with
    | [], _, [_, _], _ => rfl
  · match us, h1, ws, h2 with
    | [_], _, [_], _ => rfl
  · match us, h1, ws, h2 with
    | [_, _], _, [], _ => rfl
theorem ok__law_fifths (T : Txt g P w K mg base fI) : DefOk g P w K mg base 4 "_law_fifths" ["first", "many"] fm__law_fifths := by
  have sc := sc__law_fifths
  exact T.f__law_fifths.ok sc bd__law_fifths fun f cdv A outer s H E t hr =>
  (dss_cons (ds_ownL (i := 2) sc.nd da_nil)
  (dss_cons (ds_for (di_r2 T.b_range (de_bin op_sub od_sub de_int (de_var 0)) (de_bin op_sub od_sub (de_var 1) (de_var 0))) (dg_name (i := 3) sc.nd)
  (dss_cons (ds_par (i := 4) (j := 5) sc.nd (da_cons (de_callB (call_max2 rfl) cd_max2 T.b_max (by decide +kernel) (da_cons de_int (da_cons (de_var 3) da_nil))) (da_cons (de_callB (call_max2 rfl) cd_max2 T.b_max (by decide +kernel) (da_cons de_int (da_cons (de_bin op_sub od_sub de_int (de_var 3)) da_nil))) da_nil)))
    (dss_one (ds_mutL (i := 2) F.slot_list_append F.type_list_append mt_append mut_append (da_cons (de_call (ok__law_folded T) hr (passes_call (takes_of rfl rfl rfl rfl) (fun _ _ _ _ h => h)) (da_cons (de_bin op_mulW od_mul (de_call (ok__law_power T) hr (passes_call (takes_of rfl rfl rfl rfl) (fun _ _ _ _ h => h)) (da_cons de_int (da_cons (de_var 4) da_nil))) (de_call (ok__law_power T) hr (passes_call (takes_of rfl rfl rfl rfl) (fun _ _ _ _ h => h)) (da_cons de_int (da_cons (de_var 5) da_nil)))) (da_cons (de_bin op_mulW od_mul (de_call (ok__law_power T) hr (passes_call (takes_of rfl rfl rfl rfl) (fun _ _ _ _ h => h)) (da_cons de_int (da_cons (de_var 4) da_nil))) (de_call (ok__law_power T) hr (passes_call (takes_of rfl rfl rfl rfl) (fun _ _ _ _ h => h)) (da_cons de_int (da_cons (de_var 5) da_nil)))) da_nil))) da_nil)))))
  (dss_frz 2 (dss_one (ds_ret (de_call (ok__law_sorted T) hr (passes_call (takes_of rfl rfl rfl rfl) (fun _ _ _ _ h => h)) (da_cons (de_var 2) da_nil)))))))
def sb__law_tuning : SS :=
  (sSeq (sIf (tstV (eBin vEq (eApp 2 fm__law_roll (aCons (eVar 0) (aCons (eP (.int 2)) aNil))) (eP (.int 0)))) (sRet (eApp 2 fm__law_fifths (aCons (eApp 2 fm__law_roll (aCons (eVar 0) (aCons (eP (.int 5)) aNil))) (aCons (eBin vAdd (eP (.int 5)) (eApp 2 fm__law_roll (aCons (eVar 0) (aCons (eP (.int 8)) aNil)))) aNil)))) sNx)
  (sSeq (sOwnL 1 (aCons (eTup (aCons (eP (.int 1)) (aCons (eP (.int 1)) aNil))) aNil))
  (sSeq (sFor (it1 (eApp 2 fm__law_roll (aCons (eVar 0) (aCons (eP (.int 6)) aNil)))) (tgN 2)
  (sMutL 1 mAppend (aCons (eApp 2 fm__law_folded (aCons (eBin vAdd (eP (.int 1)) (eApp 2 fm__law_roll (aCons (eVar 0) (aCons (eP (.int 24)) aNil)))) (aCons (eBin vAdd (eP (.int 1)) (eApp 2 fm__law_roll (aCons (eVar 0) (aCons (eP (.int 24)) aNil)))) aNil))) aNil)))
  (sFrz 1 (sRet (eApp 1 fm__law_sorted (aCons (eVar 1) aNil)))))))
def fm__law_tuning : FM := fnM 3 sb__law_tuning
theorem sc__law_tuning : FnScope (["dice", "rows", "turn"] : List Str) ["dice"] (defScope (top 40)) := ⟨rfl, rfl, rfl, by decide +kernel, rfl, by decide +kernel, by decide +kernel⟩
theorem bd__law_tuning : BindOk "_law_tuning" (top 40) ["dice"] := by
  intro kV doc pm an cdv ct us ws hl
  have h : (us.length = 0 ∧ ws.length = 1) ∨ (us.length = 1 ∧ ws.length = 0) := by simp only [List.length_cons, List.length_nil] at hl; omega
  rcases h with ⟨h1, h2⟩ | ⟨h1, h2⟩
  · match us, h1, ws, h2 with
    | [], _, [_], _ => rfl
  · match us, h1, ws, h2 with
    | [_], _, [], _ => rfl
theorem ok__law_tuning (T : Txt g P w K mg base fI) : DefOk g P w K mg base 5 "_law_tuning" ["dice"] fm__law_tuning := by
  have sc := sc__law_tuning
  exact T.f__law_tuning.ok sc bd__law_tuning fun f cdv A outer s H E t hr =>
  (dss_cons (ds_if (dt_cmp (op_eqX hr) od_eq (by first | rfl | with_unfolding_all rfl) (de_call (ok__law_roll T) hr (passes_call (takes_of rfl rfl rfl rfl) (fun _ _ _ _ h => h)) (da_cons (de_var 0) (da_cons de_int da_nil))) de_int) (dss_one (ds_ret (de_call (ok__law_fifths T) hr (passes_call (takes_of rfl rfl rfl rfl) (fun _ _ _ _ h => h)) (da_cons (de_call (ok__law_roll T) hr (passes_call (takes_of rfl rfl rfl rfl) (fun _ _ _ _ h => h)) (da_cons (de_var 0) (da_cons de_int da_nil))) (da_cons (de_bin op_addD od_add de_int (de_call (ok__law_roll T) hr (passes_call (takes_of rfl rfl rfl rfl) (fun _ _ _ _ h => h)) (da_cons (de_var 0) (da_cons de_int da_nil)))) da_nil))))) dss_nil)
  (dss_cons (ds_ownL (i := 1) sc.nd (da_cons (de_tup (da_cons de_int (da_cons de_int da_nil))) da_nil))
  (dss_cons (ds_for (di_r1 T.b_range (de_call (ok__law_roll T) hr (passes_call (takes_of rfl rfl rfl rfl) (fun _ _ _ _ h => h)) (da_cons (de_var 0) (da_cons de_int da_nil)))) (dg_name (i := 2) sc.nd)
  (dss_one (ds_mutL (i := 1) F.slot_list_append F.type_list_append mt_append mut_append (da_cons (de_call (ok__law_folded T) hr (passes_call (takes_of rfl rfl rfl rfl) (fun _ _ _ _ h => h)) (da_cons (de_bin op_addD od_add de_int (de_call (ok__law_roll T) hr (passes_call (takes_of rfl rfl rfl rfl) (fun _ _ _ _ h => h)) (da_cons (de_var 0) (da_cons de_int da_nil)))) (da_cons (de_bin op_addD od_add de_int (de_call (ok__law_roll T) hr (passes_call (takes_of rfl rfl rfl rfl) (fun _ _ _ _ h => h)) (da_cons (de_var 0) (da_cons de_int da_nil)))) da_nil))) da_nil))))
  (dss_frz 1 (dss_one (ds_ret (de_call (ok__law_sorted T) hr (passes_call (takes_of rfl rfl rfl rfl) (fun _ _ _ _ h => h)) (da_cons (de_var 1) da_nil))))))))
def sb__law_speed : SS :=
  (sSeq (sUnp (tgT [2, 3]) (eBin vIx (eVar 0) (eBin vMod (eVar 1) (eCall vLen (aCons (eVar 0) aNil)))))
  (sRet (eApp 2 fm__law_frac (aCons (eBin vMul (eVar 2) (eApp 2 fm__law_power (aCons (eP (.int 2)) (aCons (eBin vDiv (eVar 1) (eCall vLen (aCons (eVar 0) aNil))) aNil)))) (aCons (eVar 3) aNil)))))
def fm__law_speed : FM := fnM 4 sb__law_speed
theorem sc__law_speed : FnScope (["tuning", "key", "above", "below"] : List Str) ["tuning", "key"] (defScope (top 41)) := ⟨rfl, rfl, rfl, by decide +kernel, rfl, by decide +kernel, by decide +kernel⟩
theorem bd__law_speed : BindOk "_law_speed" (top 41) ["tuning", "key"] := by
  intro kV doc pm an cdv ct us ws hl
  have h : (us.length = 0 ∧ ws.length = 2) ∨ (us.length = 1 ∧ ws.length = 1) ∨ (us.length = 2 ∧ ws.length = 0) := by simp only [List.length_cons, List.length_nil] at hl; omega
  rcases h with ⟨h1, h2⟩ | ⟨h1, h2⟩ | ⟨h1, h2⟩
  · match us, h1, ws, h2 with
    | [], _, [_, _], _ => rfl
  · match us, h1, ws, h2 with
    | [_], _, [_], _ => rfl
  · match us, h1, ws, h2 with
    | [_, _], _, [], _ => rfl
theorem ok__law_speed (T : Txt g P w K mg base fI) : DefOk g P w K mg base 3 "_law_speed" ["tuning", "key"] fm__law_speed := by
  have sc := sc__law_speed
  exact T.f__law_speed.ok sc bd__law_speed fun f cdv A outer s H E t hr =>
  (dss_cons (ds_unp (de_ix (de_var 0) (de_bin op_mod od_mod (de_var 1) (de_callB call_lenX cd_len T.b_len (by decide +kernel) (da_cons (de_var 0) da_nil)))) (dg_tup (dgs_cons (i := 2) (dg_name (i := 2) sc.nd) (dgs_cons (i := 3) (dg_name (i := 3) sc.nd) dgs_nil))))
  (dss_one (ds_ret (de_call (ok__law_frac T) hr (passes_call (takes_of rfl rfl rfl rfl) (fun _ _ _ _ h => h)) (da_cons (de_bin op_mulW od_mul (de_var 2) (de_call (ok__law_power T) hr (passes_call (takes_of rfl rfl rfl rfl) (fun _ _ _ _ h => h)) (da_cons de_int (da_cons (de_bin op_fdivW od_div (de_var 1) (de_callB call_lenX cd_len T.b_len (by decide +kernel) (da_cons (de_var 0) da_nil))) da_nil)))) (da_cons (de_var 3) da_nil))))))
def sb_is_less : SS :=
  (sRet (eBin vLt (eBin vMul (eBin vIx (eVar 0) (eP (.int 0))) (eBin vIx (eVar 1) (eP (.int 1)))) (eBin vMul (eBin vIx (eVar 1) (eP (.int 0))) (eBin vIx (eVar 0) (eP (.int 1))))))
def fm_is_less : FM := fnM 2 sb_is_less
theorem sc_is_less : FnScope (["one", "other"] : List Str) ["one", "other"] (defScope (top 8)) := ⟨rfl, rfl, rfl, by decide +kernel, rfl, by decide +kernel, by decide +kernel⟩
theorem bd_is_less : BindOk "is_less" (top 8) ["one", "other"] := by
  intro kV doc pm an cdv ct us ws hl
  have h : (us.length = 0 ∧ ws.length = 2) ∨ (us.length = 1 ∧ ws.length = 1) ∨ (us.length = 2 ∧ ws.length = 0) := by simp only [List.length_cons, List.length_nil] at hl; omega
  rcases h with ⟨h1, h2⟩ | ⟨h1, h2⟩ | ⟨h1, h2⟩
  · match us, h1, ws, h2 with
    | [], _, [_, _], _ => rfl
  · match us, h1, ws, h2 with
    | [_], _, [_], _ => rfl
  · match us, h1, ws, h2 with
    | [_, _], _, [], _ => rfl
theorem ok_is_less (T : Txt g P w K mg base fI) : DefOk g P w K mg base 1 "is_less" ["one", "other"] fm_is_less := by
  have sc := sc_is_less
  exact T.f_is_less.ok sc bd_is_less fun f cdv A outer s H E t hr =>
  (dss_one (ds_ret (de_cmp (op_ltD hr) od_lt (by first | rfl | with_unfolding_all rfl) (de_bin op_mulW od_mul (de_ix (de_var 0) de_int) (de_ix (de_var 1) de_int)) (de_bin op_mulW od_mul (de_ix (de_var 1) de_int) (de_ix (de_var 0) de_int)))))
def sb_common : SS :=
  (sSeq (sSet 0 (eCall vAbs (aCons (eVar 0) aNil)))
  (sSeq (sSet 1 (eCall vAbs (aCons (eVar 1) aNil)))
  (sSeq (sWh (fuelI 1) (tstV (eBin vGt (eVar 1) (eP (.int 0)))) (sPar 0 1 (aCons (eVar 1) (aCons (eBin vMod (eVar 0) (eVar 1)) aNil))))
  (sRet (eVar 0)))))
def fm_common : FM := fnM 2 sb_common
theorem sc_common : FnScope (["one", "other"] : List Str) ["one", "other"] (defScope (top 5)) := ⟨rfl, rfl, rfl, by decide +kernel, rfl, by decide +kernel, by decide +kernel⟩
theorem bd_common : BindOk "common" (top 5) ["one", "other"] := by
  intro kV doc pm an cdv ct us ws hl
  have h : (us.length = 0 ∧ ws.length = 2) ∨ (us.length = 1 ∧ ws.length = 1) ∨ (us.length = 2 ∧ ws.length = 0) := by simp only [List.length_cons, List.length_nil] at hl; omega
  rcases h with ⟨h1, h2⟩ | ⟨h1, h2⟩ | ⟨h1, h2⟩
  · match us, h1, ws, h2 with
    | [], _, [_, _], _ => rfl
  · match us, h1, ws, h2 with
    | [_], _, [_], _ => rfl
  · match us, h1, ws, h2 with
    | [_, _], _, [], _ => rfl
theorem ok_common (T : Txt g P w K mg base fI) : DefOk g P w K mg base 1 "common" ["one", "other"] fm_common := by
  have sc := sc_common
  exact T.f_common.ok sc bd_common fun f cdv A outer s H E t hr =>
  (dss_cons (ds_set (i := 0) sc.nd (de_callB call_abs cd_abs T.b_abs (by decide +kernel) (da_cons (de_var 0) da_nil)))
  (dss_cons (ds_set (i := 1) sc.nd (de_callB call_abs cd_abs T.b_abs (by decide +kernel) (da_cons (de_var 1) da_nil)))
  (dss_cons (ds_while (fuelI 1) (dt_cmp op_gt od_gt (by first | rfl | with_unfolding_all rfl) (de_var 1) de_int) (dss_one (ds_par (i := 0) (j := 1) sc.nd (da_cons (de_var 1) (da_cons (de_bin op_mod od_mod (de_var 0) (de_var 1)) da_nil)))))
  (dss_one (ds_ret (de_var 0))))))
def sb_ratio : SS :=
  (sSeq (sSet 2 (eApp 2 fm_common (aCons (eVar 0) (aCons (eVar 1) aNil))))
  (sRet (eTup (aCons (eBin vDiv (eVar 0) (eVar 2)) (aCons (eBin vDiv (eVar 1) (eVar 2)) aNil)))))
def fm_ratio : FM := fnM 3 sb_ratio
theorem sc_ratio : FnScope (["above", "below", "divisor"] : List Str) ["above", "below"] (defScope (top 6)) := ⟨rfl, rfl, rfl, by decide +kernel, rfl, by decide +kernel, by decide +kernel⟩
theorem bd_ratio : BindOk "ratio" (top 6) ["above", "below"] := by
  intro kV doc pm an cdv ct us ws hl
  have h : (us.length = 0 ∧ ws.length = 2) ∨ (us.length = 1 ∧ ws.length = 1) ∨ (us.length = 2 ∧ ws.length = 0) := by simp only [List.length_cons, List.length_nil] at hl; omega
  rcases h with ⟨h1, h2⟩ | ⟨h1, h2⟩ | ⟨h1, h2⟩
  · match us, h1, ws, h2 with
    | [], _, [_, _], _ => rfl
  · match us, h1, ws, h2 with
    | [_], _, [_], _ => rfl
  · match us, h1, ws, h2 with
    | [_, _], _, [], _ => rfl
theorem ok_ratio (T : Txt g P w K mg base fI) : DefOk g P w K mg base 2 "ratio" ["above", "below"] fm_ratio := by
  have sc := sc_ratio
  exact T.f_ratio.ok sc bd_ratio fun f cdv A outer s H E t hr =>
  (dss_cons (ds_set (i := 2) sc.nd (de_call (ok_common T) hr (passes_call (takes_of rfl rfl rfl rfl) (fun _ _ _ _ h => h)) (da_cons (de_var 0) (da_cons (de_var 1) da_nil))))
  (dss_one (ds_ret (de_tup (da_cons (de_bin op_fdivW od_div (de_var 0) (de_var 2)) (da_cons (de_bin op_fdivW od_div (de_var 1) (de_var 2)) da_nil))))))
def sb_is_integer : SS :=
  (sRet (eAnd (eUn (vIsi "int") (eVar 0)) (eNot (eUn (vIsi "bool") (eVar 0)))))
def fm_is_integer : FM := fnM 1 sb_is_integer
theorem sc_is_integer : FnScope (["value"] : List Str) ["value"] (defScope (top 3)) := ⟨rfl, rfl, rfl, by decide +kernel, rfl, by decide +kernel, by decide +kernel⟩
theorem bd_is_integer : BindOk "is_integer" (top 3) ["value"] := by
  intro kV doc pm an cdv ct us ws hl
  have h : (us.length = 0 ∧ ws.length = 1) ∨ (us.length = 1 ∧ ws.length = 0) := by simp only [List.length_cons, List.length_nil] at hl; omega
  rcases h with ⟨h1, h2⟩ | ⟨h1, h2⟩
  · match us, h1, ws, h2 with
    | [], _, [_], _ => rfl
  · match us, h1, ws, h2 with
    | [_], _, [], _ => rfl
theorem ok_is_integer (T : Txt g P w K mg base fI) : DefOk g P w K mg base 1 "is_integer" ["value"] fm_is_integer := by
  have sc := sc_is_integer
  exact T.f_is_integer.ok sc bd_is_integer fun f cdv A outer s H E t hr =>
  (dss_one (ds_ret (de_and (de_isi T.b_isinstance T.b_int (by decide +kernel) (de_var 0)) (de_one (de_not (de_isi T.b_isinstance T.b_bool (by decide +kernel) (de_var 0)))))))
def sb_is_fraction : SS :=
  (sSeq (sIf (tOrD (tNotD (tstV (eUn (vIsi "tuple") (eVar 0)))) (tOrD (tstV (eBin vNe (eCall vLen (aCons (eVar 0) aNil)) (eP (.int 2)))) (tNotD (tstV (eAll (itS (eVar 0)) 3 (eApp 1 fm_is_integer (aCons (eVar 3) aNil))))))) (sRet (eP (.bool false))) sNx)
  (sRet (eAnd (eBin vLe (eCall vAbs (aCons (eBin vIx (eVar 0) (eP (.int 0))) aNil)) (eVar 1)) (eAnd (eChain vLe vLe (eP (.int 1)) (eBin vIx (eVar 0) (eP (.int 1))) (eVar 2)) (eBin vEq (eApp 2 fm_ratio (aCons (eBin vIx (eVar 0) (eP (.int 0))) (aCons (eBin vIx (eVar 0) (eP (.int 1))) aNil))) (eVar 0))))))
def fm_is_fraction : FM := fnM 4 sb_is_fraction
theorem sc_is_fraction : FnScope (["value", "most_above", "most_below", "one"] : List Str) ["value", "most_above", "most_below"] (defScope (top 10)) := ⟨rfl, rfl, rfl, by decide +kernel, rfl, by decide +kernel, by decide +kernel⟩
theorem bd_is_fraction : BindOk "is_fraction" (top 10) ["value", "most_above", "most_below"] := by
  intro kV doc pm an cdv ct us ws hl
  have h : (us.length = 0 ∧ ws.length = 3) ∨ (us.length = 1 ∧ ws.length = 2) ∨ (us.length = 2 ∧ ws.length = 1) ∨ (us.length = 3 ∧ ws.length = 0) := by simp only [List.length_cons, List.length_nil] at hl; omega
  rcases h with ⟨h1, h2⟩ | ⟨h1, h2⟩ | ⟨h1, h2⟩ | ⟨h1, h2⟩
  · match us, h1, ws, h2 with
    | [], _, [_, _, _], _ => rfl
  · match us, h1, ws, h2 with
    | [_], _, [_, _], _ => rfl
  · match us, h1, ws, h2 with
    | [_, _], _, [_], _ => rfl
  · match us, h1, ws, h2 with
    | [_, _, _], _, [], _ => rfl
theorem ok_is_fraction (T : Txt g P w K mg base fI) : DefOk g P w K mg base 3 "is_fraction" ["value", "most_above", "most_below"] fm_is_fraction := by
  have sc := sc_is_fraction
  obtain ⟨c, P0, FT⟩ := T.t_is_fraction
  exact FT.ok sc bd_is_fraction fun f A outer s H E t hr =>
  (dss_cons (ds_if (DW.dt (dw_or (dt_not (dt_val (de_isi T.b_isinstance T.b_tuple (by decide +kernel) (de_var 0)))) (dw_or (dt_cmp (op_neX hr) od_ne (by first | rfl | with_unfolding_all rfl) (de_callB call_lenX cd_len T.b_len (by decide +kernel) (da_cons (de_var 0) da_nil)) de_int) (dw_or1 (dt_not (dt_val (de_allG (k := 1) (ix := 3) (hr.mono (by decide)) sc.nd T.b_all FT.tg rfl FT.mem FT.uni (genOk_by (by kernel_rfl)) (dic_seq (de_var 0)) (fun _ _ _ _ _ hr' => (de_call (ok_is_integer T) hr' passL (da_cons (de_var 3) da_nil)))))))))) (dss_one (ds_ret de_bl)) dss_nil)
  (dss_one (ds_ret (de_and (de_cmp op_le od_le (by first | rfl | with_unfolding_all rfl) (de_callB call_abs cd_abs T.b_abs (by decide +kernel) (da_cons (de_ix (de_var 0) de_int) da_nil)) (de_var 1)) (de_and (de_chain op_le od_le op_le od_le de_int (de_ix (de_var 0) de_int) (de_var 2)) (de_one (de_cmp (op_eqX hr) od_eq (by first | rfl | with_unfolding_all rfl) (de_call (ok_ratio T) hr (passes_call (takes_of rfl rfl rfl rfl) (fun _ _ _ _ h => h)) (da_cons (de_ix (de_var 0) de_int) (da_cons (de_ix (de_var 0) de_int) da_nil))) (de_var 0))))))))
def sb_is_tuning : SS :=
  (sSeq (sIf (tOrD (tNotD (tstV (eUn (vIsi "tuple") (eVar 0)))) (tNotD (tstV (eChain vLe vLe (eP (.int 1)) (eCall vLen (aCons (eVar 0) aNil)) (eP (.int 12)))))) (sRet (eP (.bool false))) sNx)
  (sSeq (sIf (tOrD (tNotD (tstV (eAll (itS (eVar 0)) 3 (eApp 3 fm_is_fraction (aCons (eVar 3) (aCons (eP (.int 1000000000)) (aCons (eP (.int 1000000000)) aNil))))))) (tstV (eBin vNe (eBin vIx (eVar 0) (eP (.int 0))) (eTup (aCons (eP (.int 1)) (aCons (eP (.int 1)) aNil)))))) (sRet (eP (.bool false))) sNx)
  (sSeq (sSet 1 (eBin vIx (eVar 0) (eBin vSub (eCall vLen (aCons (eVar 0) aNil)) (eP (.int 1)))))
  (sRet (eAnd (eBin vLt (eBin vIx (eVar 1) (eP (.int 0))) (eBin vMul (eP (.int 2)) (eBin vIx (eVar 1) (eP (.int 1))))) (eAll (it2 (eP (.int 1)) (eCall vLen (aCons (eVar 0) aNil))) 2 (eApp 2 fm_is_less (aCons (eBin vIx (eVar 0) (eBin vSub (eVar 2) (eP (.int 1)))) (aCons (eBin vIx (eVar 0) (eVar 2)) aNil)))))))))
def fm_is_tuning : FM := fnM 4 sb_is_tuning
theorem sc_is_tuning : FnScope (["value", "last", "at", "one"] : List Str) ["value"] (defScope (top 15)) := ⟨rfl, rfl, rfl, by decide +kernel, rfl, by decide +kernel, by decide +kernel⟩
theorem bd_is_tuning : BindOk "is_tuning" (top 15) ["value"] := by
  intro kV doc pm an cdv ct us ws hl
  have h : (us.length = 0 ∧ ws.length = 1) ∨ (us.length = 1 ∧ ws.length = 0) := by simp only [List.length_cons, List.length_nil] at hl; omega
  rcases h with ⟨h1, h2⟩ | ⟨h1, h2⟩
  · match us, h1, ws, h2 with
    | [], _, [_], _ => rfl
  · match us, h1, ws, h2 with
    | [_], _, [], _ => rfl
theorem ok_is_tuning (T : Txt g P w K mg base fI) : DefOk g P w K mg base 5 "is_tuning" ["value"] fm_is_tuning := by
  have sc := sc_is_tuning
  obtain ⟨c, P0, FT⟩ := T.t_is_tuning
  exact FT.ok sc bd_is_tuning fun f A outer s H E t hr =>
  (dss_cons (ds_if (DW.dt (dw_or (dt_not (dt_val (de_isi T.b_isinstance T.b_tuple (by decide +kernel) (de_var 0)))) (dw_or1 (dt_not (dt_chain op_le od_le op_le od_le de_int (de_callB call_lenX cd_len T.b_len (by decide +kernel) (da_cons (de_var 0) da_nil)) (de_globI T.c_MOST_TONES (by rfl))))))) (dss_one (ds_ret de_bl)) dss_nil)
  (dss_cons (ds_if (DW.dt (dw_or (dt_not (dt_val (de_allG (k := 3) (ix := 3) (hr.mono (by decide)) sc.nd T.b_all FT.tg rfl FT.mem FT.uni (genOk_by (by kernel_rfl)) (dic_seq (de_var 0)) (fun _ _ _ _ _ hr' => (de_call (ok_is_fraction T) hr' passL (da_cons (de_var 3) (da_cons (de_globI T.c_MOST_ABOVE (by rfl)) (da_cons (de_globI T.c_MOST_ABOVE (by rfl)) da_nil)))))))) (dw_or1 (dt_cmp (op_neX hr) od_ne (by first | rfl | with_unfolding_all rfl) (de_ix (de_var 0) de_int) (de_tup (da_cons de_int (da_cons de_int da_nil))))))) (dss_one (ds_ret de_bl)) dss_nil)
  (dss_cons (ds_set (i := 1) sc.nd (de_ix (de_var 0) (de_bin op_sub od_sub (de_callB call_lenX cd_len T.b_len (by decide +kernel) (da_cons (de_var 0) da_nil)) de_int)))
  (dss_one (ds_ret (de_and (de_cmp (op_ltD hr) od_lt (by first | rfl | with_unfolding_all rfl) (de_ix (de_var 1) de_int) (de_bin op_mulW od_mul de_int (de_ix (de_var 1) de_int))) (de_one (de_allG (k := 1) (ix := 2) (hr.mono (by decide)) sc.nd T.b_all FT.tg rfl FT.mem FT.uni (genOk_by (by kernel_rfl)) (dic_r2 T.b_range de_int (de_callB call_lenX cd_len T.b_len (by decide +kernel) (da_cons (de_var 0) da_nil))) (fun _ _ _ _ _ hr' => (de_call (ok_is_less T) hr' passL (da_cons (de_ix (de_var 0) (de_bin op_sub od_sub (de_var 2) de_int)) (da_cons (de_ix (de_var 0) (de_var 2)) da_nil))))))))))))
def sb_need_tuning : SS :=
  (sIf (tNotD (tstV (eApp 1 fm_is_tuning (aCons (eVar 0) aNil)))) (sBad (aCons (eVar 1) aNil)) sNx)
def fm_need_tuning : FM := fnM 2 sb_need_tuning
theorem sc_need_tuning : FnScope (["value", "name"] : List Str) ["value", "name"] (defScope (top 16)) := ⟨rfl, rfl, rfl, by decide +kernel, rfl, by decide +kernel, by decide +kernel⟩
theorem bd_need_tuning : BindOk "need_tuning" (top 16) ["value", "name"] := by
  intro kV doc pm an cdv ct us ws hl
  have h : (us.length = 0 ∧ ws.length = 2) ∨ (us.length = 1 ∧ ws.length = 1) ∨ (us.length = 2 ∧ ws.length = 0) := by simp only [List.length_cons, List.length_nil] at hl; omega
  rcases h with ⟨h1, h2⟩ | ⟨h1, h2⟩ | ⟨h1, h2⟩
  · match us, h1, ws, h2 with
    | [], _, [_, _], _ => rfl
  · match us, h1, ws, h2 with
    | [_], _, [_], _ => rfl
  · match us, h1, ws, h2 with
    | [_, _], _, [], _ => rfl
theorem ok_need_tuning (T : Txt g P w K mg base fI) : DefOk g P w K mg base 6 "need_tuning" ["value", "name"] fm_need_tuning := by
  have sc := sc_need_tuning
  exact T.f_need_tuning.ok sc bd_need_tuning fun f cdv A outer s H E t hr =>
  (dss_one (ds_if (dt_not (dt_val (de_call (ok_is_tuning T) hr (passes_call (takes_of rfl rfl rfl rfl) (fun _ _ _ _ h => h)) (da_cons (de_var 0) da_nil)))) (dss_one (ds_bad T.bad hr (da_cons (de_var 1) da_nil) (takes_of rfl rfl rfl rfl) (fun _ _ _ _ h => h))) dss_nil))
def sb_need_integer : SS :=
  (sIf (tOrD (tNotD (tstV (eApp 1 fm_is_integer (aCons (eVar 0) aNil)))) (tOrD (tstV (eBin vLt (eVar 0) (eVar 2))) (tstV (eBin vGt (eVar 0) (eVar 3))))) (sBad (aCons (eVar 1) aNil)) sNx)
def fm_need_integer : FM := fnM 4 sb_need_integer
theorem sc_need_integer : FnScope (["value", "name", "least", "most"] : List Str) ["value", "name", "least", "most"] (defScope (top 4)) := ⟨rfl, rfl, rfl, by decide +kernel, rfl, by decide +kernel, by decide +kernel⟩
theorem bd_need_integer : BindOk "need_integer" (top 4) ["value", "name", "least", "most"] := by
  intro kV doc pm an cdv ct us ws hl
  have h : (us.length = 0 ∧ ws.length = 4) ∨ (us.length = 1 ∧ ws.length = 3) ∨ (us.length = 2 ∧ ws.length = 2) ∨ (us.length = 3 ∧ ws.length = 1) ∨ (us.length = 4 ∧ ws.length = 0) := by simp only [List.length_cons, List.length_nil] at hl; omega
  rcases h with ⟨h1, h2⟩ | ⟨h1, h2⟩ | ⟨h1, h2⟩ | ⟨h1, h2⟩ | ⟨h1, h2⟩
  · match us, h1, ws, h2 with
    | [], _, [_, _, _, _], _ => rfl
  · match us, h1, ws, h2 with
    | [_], _, [_, _, _], _ => rfl
  · match us, h1, ws, h2 with
    | [_, _], _, [_, _], _ => rfl
  · match us, h1, ws, h2 with
    | [_, _, _], _, [_], _ => rfl
  · match us, h1, ws, h2 with
    | [_, _, _, _], _, [], _ => rfl
theorem ok_need_integer (T : Txt g P w K mg base fI) : DefOk g P w K mg base 2 "need_integer" ["value", "name", "least", "most"] fm_need_integer := by
  have sc := sc_need_integer
  exact T.f_need_integer.ok sc bd_need_integer fun f cdv A outer s H E t hr =>
  (dss_one (ds_if (DW.dt (dw_or (dt_not (dt_val (de_call (ok_is_integer T) hr (passes_call (takes_of rfl rfl rfl rfl) (fun _ _ _ _ h => h)) (da_cons (de_var 0) da_nil)))) (dw_or (dt_cmp (op_ltD hr) od_lt (by first | rfl | with_unfolding_all rfl) (de_var 0) (de_var 2)) (dw_or1 (dt_cmp op_gt od_gt (by first | rfl | with_unfolding_all rfl) (de_var 0) (de_var 3)))))) (dss_one (ds_bad T.bad hr (da_cons (de_var 1) da_nil) (takes_of rfl rfl rfl rfl) (fun _ _ _ _ h => h))) dss_nil))
def sb_power : SS :=
  (sSeq (sSet 2 (eP (.int 1)))
  (sSeq (sFor (it1 (eVar 1)) (tgN 3)
  (sAug 2 vMul (eVar 0)))
  (sRet (eVar 2))))
def fm_power : FM := fnM 4 sb_power
theorem sc_power : FnScope (["base", "exponent", "found", "turn"] : List Str) ["base", "exponent"] (defScope (top 19)) := ⟨rfl, rfl, rfl, by decide +kernel, rfl, by decide +kernel, by decide +kernel⟩
theorem bd_power : BindOk "power" (top 19) ["base", "exponent"] := by
  intro kV doc pm an cdv ct us ws hl
  have h : (us.length = 0 ∧ ws.length = 2) ∨ (us.length = 1 ∧ ws.length = 1) ∨ (us.length = 2 ∧ ws.length = 0) := by simp only [List.length_cons, List.length_nil] at hl; omega
  rcases h with ⟨h1, h2⟩ | ⟨h1, h2⟩ | ⟨h1, h2⟩
  · match us, h1, ws, h2 with
    | [], _, [_, _], _ => rfl
  · match us, h1, ws, h2 with
    | [_], _, [_], _ => rfl
  · match us, h1, ws, h2 with
    | [_, _], _, [], _ => rfl
theorem ok_power (T : Txt g P w K mg base fI) : DefOk g P w K mg base 1 "power" ["base", "exponent"] fm_power := by
  have sc := sc_power
  exact T.f_power.ok sc bd_power fun f cdv A outer s H E t hr =>
  (dss_cons (ds_set (i := 2) sc.nd de_int)
  (dss_cons (ds_for (di_r1 T.b_range (de_var 1)) (dg_name (i := 3) sc.nd)
  (dss_one (ds_aug (i := 2) sc.nd iop_mulW od_mul (de_var 0))))
  (dss_one (ds_ret (de_var 2)))))
def sb_speed : SS :=
  (sSeq (sSet 2 (eBin vDiv (eVar 1) (eCall vLen (aCons (eVar 0) aNil))))
  (sSeq (sUnp (tgT [3, 4]) (eBin vIx (eVar 0) (eBin vMod (eVar 1) (eCall vLen (aCons (eVar 0) aNil)))))
  (sRet (eApp 2 fm_ratio (aCons (eBin vMul (eVar 3) (eApp 2 fm_power (aCons (eP (.int 2)) (aCons (eVar 2) aNil)))) (aCons (eVar 4) aNil))))))
def fm_speed : FM := fnM 5 sb_speed
theorem sc_speed : FnScope (["tuning", "key", "octave", "above", "below"] : List Str) ["tuning", "key"] (defScope (top 21)) := ⟨rfl, rfl, rfl, by decide +kernel, rfl, by decide +kernel, by decide +kernel⟩
theorem bd_speed : BindOk "speed" (top 21) ["tuning", "key"] := by
  intro kV doc pm an cdv ct us ws hl
  have h : (us.length = 0 ∧ ws.length = 2) ∨ (us.length = 1 ∧ ws.length = 1) ∨ (us.length = 2 ∧ ws.length = 0) := by simp only [List.length_cons, List.length_nil] at hl; omega
  rcases h with ⟨h1, h2⟩ | ⟨h1, h2⟩ | ⟨h1, h2⟩
  · match us, h1, ws, h2 with
    | [], _, [_, _], _ => rfl
  · match us, h1, ws, h2 with
    | [_], _, [_], _ => rfl
  · match us, h1, ws, h2 with
    | [_, _], _, [], _ => rfl
theorem ok_speed (T : Txt g P w K mg base fI) : DefOk g P w K mg base 3 "speed" ["tuning", "key"] fm_speed := by
  have sc := sc_speed
  exact T.f_speed.ok sc bd_speed fun f cdv A outer s H E t hr =>
  (dss_cons (ds_set (i := 2) sc.nd (de_bin op_fdivW od_div (de_var 1) (de_callB call_lenX cd_len T.b_len (by decide +kernel) (da_cons (de_var 0) da_nil))))
  (dss_cons (ds_unp (de_ix (de_var 0) (de_bin op_mod od_mod (de_var 1) (de_callB call_lenX cd_len T.b_len (by decide +kernel) (da_cons (de_var 0) da_nil)))) (dg_tup (dgs_cons (i := 3) (dg_name (i := 3) sc.nd) (dgs_cons (i := 4) (dg_name (i := 4) sc.nd) dgs_nil))))
  (dss_one (ds_ret (de_call (ok_ratio T) hr (passes_call (takes_of rfl rfl rfl rfl) (fun _ _ _ _ h => h)) (da_cons (de_bin op_mulW od_mul (de_var 3) (de_call (ok_power T) hr (passes_call (takes_of rfl rfl rfl rfl) (fun _ _ _ _ h => h)) (da_cons de_int (da_cons (de_var 2) da_nil)))) (da_cons (de_var 4) da_nil)))))))
def sb_interval : SS :=
  (sSeq (sExpr (eApp 2 fm_need_tuning (aCons (eVar 0) (aCons (eP (.str "tuning")) aNil))))
  (sSeq (sExpr (eApp 4 fm_need_integer (aCons (eVar 1) (aCons (eP (.str "low")) (aCons (eP (.int 0)) (aCons (eP (.int 60)) aNil))))))
  (sSeq (sExpr (eApp 4 fm_need_integer (aCons (eVar 2) (aCons (eP (.str "high")) (aCons (eP (.int 0)) (aCons (eP (.int 60)) aNil))))))
  (sSeq (sSet 3 (eApp 2 fm_speed (aCons (eVar 0) (aCons (eVar 1) aNil))))
  (sSeq (sSet 4 (eApp 2 fm_speed (aCons (eVar 0) (aCons (eVar 2) aNil))))
  (sRet (eApp 2 fm_ratio (aCons (eBin vMul (eBin vIx (eVar 4) (eP (.int 0))) (eBin vIx (eVar 3) (eP (.int 1)))) (aCons (eBin vMul (eBin vIx (eVar 4) (eP (.int 1))) (eBin vIx (eVar 3) (eP (.int 0)))) aNil)))))))))
def fm_interval : FM := fnM 5 sb_interval
theorem sc_interval : FnScope (["tuning", "low", "high", "one", "other"] : List Str) ["tuning", "low", "high"] (defScope (top 22)) := ⟨rfl, rfl, rfl, by decide +kernel, rfl, by decide +kernel, by decide +kernel⟩
theorem bd_interval : BindOk "interval" (top 22) ["tuning", "low", "high"] := by
  intro kV doc pm an cdv ct us ws hl
  have h : (us.length = 0 ∧ ws.length = 3) ∨ (us.length = 1 ∧ ws.length = 2) ∨ (us.length = 2 ∧ ws.length = 1) ∨ (us.length = 3 ∧ ws.length = 0) := by simp only [List.length_cons, List.length_nil] at hl; omega
  rcases h with ⟨h1, h2⟩ | ⟨h1, h2⟩ | ⟨h1, h2⟩ | ⟨h1, h2⟩
  · match us, h1, ws, h2 with
    | [], _, [_, _, _], _ => rfl
  · match us, h1, ws, h2 with
    | [_], _, [_, _], _ => rfl
  · match us, h1, ws, h2 with
    | [_, _], _, [_], _ => rfl
  · match us, h1, ws, h2 with
    | [_, _, _], _, [], _ => rfl
theorem ok_interval (T : Txt g P w K mg base fI) : DefOk g P w K mg base 7 "interval" ["tuning", "low", "high"] fm_interval := by
  have sc := sc_interval
  exact T.f_interval.ok sc bd_interval fun f cdv A outer s H E t hr =>
  (dss_cons (ds_expr (de_call (ok_need_tuning T) hr (passes_call (takes_of rfl rfl rfl rfl) (fun _ _ _ _ h => h)) (da_cons (de_var 0) (da_cons de_str da_nil))))
  (dss_cons (ds_expr (de_call (ok_need_integer T) hr (passes_call (takes_of rfl rfl rfl rfl) (fun _ _ _ _ h => h)) (da_cons (de_var 1) (da_cons de_str (da_cons de_int (da_cons (de_globI T.c_MOST_STEP (by rfl)) da_nil))))))
  (dss_cons (ds_expr (de_call (ok_need_integer T) hr (passes_call (takes_of rfl rfl rfl rfl) (fun _ _ _ _ h => h)) (da_cons (de_var 2) (da_cons de_str (da_cons de_int (da_cons (de_globI T.c_MOST_STEP (by rfl)) da_nil))))))
  (dss_cons (ds_set (i := 3) sc.nd (de_call (ok_speed T) hr (passes_call (takes_of rfl rfl rfl rfl) (fun _ _ _ _ h => h)) (da_cons (de_var 0) (da_cons (de_var 1) da_nil))))
  (dss_cons (ds_set (i := 4) sc.nd (de_call (ok_speed T) hr (passes_call (takes_of rfl rfl rfl rfl) (fun _ _ _ _ h => h)) (da_cons (de_var 0) (da_cons (de_var 2) da_nil))))
  (dss_one (ds_ret (de_call (ok_ratio T) hr (passes_call (takes_of rfl rfl rfl rfl) (fun _ _ _ _ h => h)) (da_cons (de_bin op_mulW od_mul (de_ix (de_var 4) de_int) (de_ix (de_var 3) de_int)) (da_cons (de_bin op_mulW od_mul (de_ix (de_var 4) de_int) (de_ix (de_var 3) de_int)) da_nil))))))))))
def sb_size : SS :=
  (sRet (eTup (aCons (eCall vAbs (aCons (eBin vIx (eVar 0) (eP (.int 0))) aNil)) (aCons (eBin vIx (eVar 0) (eP (.int 1))) aNil))))
def fm_size : FM := fnM 1 sb_size
theorem sc_size : FnScope (["one"] : List Str) ["one"] (defScope (top 9)) := ⟨rfl, rfl, rfl, by decide +kernel, rfl, by decide +kernel, by decide +kernel⟩
theorem bd_size : BindOk "size" (top 9) ["one"] := by
  intro kV doc pm an cdv ct us ws hl
  have h : (us.length = 0 ∧ ws.length = 1) ∨ (us.length = 1 ∧ ws.length = 0) := by simp only [List.length_cons, List.length_nil] at hl; omega
  rcases h with ⟨h1, h2⟩ | ⟨h1, h2⟩
  · match us, h1, ws, h2 with
    | [], _, [_], _ => rfl
  · match us, h1, ws, h2 with
    | [_], _, [], _ => rfl
theorem ok_size (T : Txt g P w K mg base fI) : DefOk g P w K mg base 1 "size" ["one"] fm_size := by
  have sc := sc_size
  exact T.f_size.ok sc bd_size fun f cdv A outer s H E t hr =>
  (dss_one (ds_ret (de_tup (da_cons (de_callB call_abs cd_abs T.b_abs (by decide +kernel) (da_cons (de_ix (de_var 0) de_int) da_nil)) (da_cons (de_ix (de_var 0) de_int) da_nil)))))
def sb_plus : SS :=
  (sRet (eApp 2 fm_ratio (aCons (eBin vAdd (eBin vMul (eBin vIx (eVar 0) (eP (.int 0))) (eBin vIx (eVar 1) (eP (.int 1)))) (eBin vMul (eBin vIx (eVar 1) (eP (.int 0))) (eBin vIx (eVar 0) (eP (.int 1))))) (aCons (eBin vMul (eBin vIx (eVar 0) (eP (.int 1))) (eBin vIx (eVar 1) (eP (.int 1)))) aNil))))
def fm_plus : FM := fnM 2 sb_plus
theorem sc_plus : FnScope (["one", "other"] : List Str) ["one", "other"] (defScope (top 7)) := ⟨rfl, rfl, rfl, by decide +kernel, rfl, by decide +kernel, by decide +kernel⟩
theorem bd_plus : BindOk "plus" (top 7) ["one", "other"] := by
  intro kV doc pm an cdv ct us ws hl
  have h : (us.length = 0 ∧ ws.length = 2) ∨ (us.length = 1 ∧ ws.length = 1) ∨ (us.length = 2 ∧ ws.length = 0) := by simp only [List.length_cons, List.length_nil] at hl; omega
  rcases h with ⟨h1, h2⟩ | ⟨h1, h2⟩ | ⟨h1, h2⟩
  · match us, h1, ws, h2 with
    | [], _, [_, _], _ => rfl
  · match us, h1, ws, h2 with
    | [_], _, [_], _ => rfl
  · match us, h1, ws, h2 with
    | [_, _], _, [], _ => rfl
theorem ok_plus (T : Txt g P w K mg base fI) : DefOk g P w K mg base 3 "plus" ["one", "other"] fm_plus := by
  have sc := sc_plus
  exact T.f_plus.ok sc bd_plus fun f cdv A outer s H E t hr =>
  (dss_one (ds_ret (de_call (ok_ratio T) hr (passes_call (takes_of rfl rfl rfl rfl) (fun _ _ _ _ h => h)) (da_cons (de_bin op_addD od_add (de_bin op_mulW od_mul (de_ix (de_var 0) de_int) (de_ix (de_var 1) de_int)) (de_bin op_mulW od_mul (de_ix (de_var 1) de_int) (de_ix (de_var 0) de_int))) (da_cons (de_bin op_mulW od_mul (de_ix (de_var 0) de_int) (de_ix (de_var 1) de_int)) da_nil)))))
def sb_beats : SS :=
  (sSeq (sExpr (eApp 2 fm_need_tuning (aCons (eVar 0) (aCons (eP (.str "tuning")) aNil))))
  (sSeq (sExpr (eApp 4 fm_need_integer (aCons (eVar 1) (aCons (eP (.str "low")) (aCons (eP (.int 0)) (aCons (eP (.int 60)) aNil))))))
  (sSeq (sExpr (eApp 4 fm_need_integer (aCons (eVar 2) (aCons (eP (.str "high")) (aCons (eP (.int 0)) (aCons (eP (.int 60)) aNil))))))
  (sSeq (sExpr (eApp 4 fm_need_integer (aCons (eVar 3) (aCons (eP (.str "above")) (aCons (eP (.int 1)) (aCons (eP (.int 20)) aNil))))))
  (sSeq (sExpr (eApp 4 fm_need_integer (aCons (eVar 4) (aCons (eP (.str "below")) (aCons (eP (.int 1)) (aCons (eP (.int 20)) aNil))))))
  (sSeq (sSet 5 (eApp 2 fm_speed (aCons (eVar 0) (aCons (eVar 1) aNil))))
  (sSeq (sSet 6 (eApp 2 fm_speed (aCons (eVar 0) (aCons (eVar 2) aNil))))
  (sRet (eApp 1 fm_size (aCons (eApp 2 fm_plus (aCons (eTup (aCons (eBin vMul (eBin vIx (eVar 6) (eP (.int 0))) (eVar 4)) (aCons (eBin vIx (eVar 6) (eP (.int 1))) aNil))) (aCons (eTup (aCons (eBin vSub (eP (.int 0)) (eBin vMul (eBin vIx (eVar 5) (eP (.int 0))) (eVar 3))) (aCons (eBin vIx (eVar 5) (eP (.int 1))) aNil))) aNil))) aNil))))))))))
def fm_beats : FM := fnM 7 sb_beats
theorem sc_beats : FnScope (["tuning", "low", "high", "above", "below", "one", "other"] : List Str) ["tuning", "low", "high", "above", "below"] (defScope (top 23)) := ⟨rfl, rfl, rfl, by decide +kernel, rfl, by decide +kernel, by decide +kernel⟩
theorem bd_beats : BindOk "beats" (top 23) ["tuning", "low", "high", "above", "below"] := by
  intro kV doc pm an cdv ct us ws hl
  have h : (us.length = 0 ∧ ws.length = 5) ∨ (us.length = 1 ∧ ws.length = 4) ∨ (us.length = 2 ∧ ws.length = 3) ∨ (us.length = 3 ∧ ws.length = 2) ∨ (us.length = 4 ∧ ws.length = 1) ∨ (us.length = 5 ∧ ws.length = 0) := by simp only [List.length_cons, List.length_nil] at hl; omega
  rcases h with ⟨h1, h2⟩ | ⟨h1, h2⟩ | ⟨h1, h2⟩ | ⟨h1, h2⟩ | ⟨h1, h2⟩ | ⟨h1, h2⟩
  · match us, h1, ws, h2 with
    | [], _, [_, _, _, _, _], _ => rfl
  · match us, h1, ws, h2 with
    | [_], _, [_, _, _, _], _ => rfl
  · match us, h1, ws, h2 with
    | [_, _], _, [_, _, _], _ => rfl
  · match us, h1, ws, h2 with
    | [_, _, _], _, [_, _], _ => rfl
  · match us, h1, ws, h2 with
    | [_, _, _, _], _, [_], _ => rfl
  · match us, h1, ws, h2 with
    | [_, _, _, _, _], _, [], _ => rfl
theorem ok_beats (T : Txt g P w K mg base fI) : DefOk g P w K mg base 7 "beats" ["tuning", "low", "high", "above", "below"] fm_beats := by
  have sc := sc_beats
  exact T.f_beats.ok sc bd_beats fun f cdv A outer s H E t hr =>
  (dss_cons (ds_expr (de_call (ok_need_tuning T) hr (passes_call (takes_of rfl rfl rfl rfl) (fun _ _ _ _ h => h)) (da_cons (de_var 0) (da_cons de_str da_nil))))
  (dss_cons (ds_expr (de_call (ok_need_integer T) hr (passes_call (takes_of rfl rfl rfl rfl) (fun _ _ _ _ h => h)) (da_cons (de_var 1) (da_cons de_str (da_cons de_int (da_cons (de_globI T.c_MOST_STEP (by rfl)) da_nil))))))
  (dss_cons (ds_expr (de_call (ok_need_integer T) hr (passes_call (takes_of rfl rfl rfl rfl) (fun _ _ _ _ h => h)) (da_cons (de_var 2) (da_cons de_str (da_cons de_int (da_cons (de_globI T.c_MOST_STEP (by rfl)) da_nil))))))
  (dss_cons (ds_expr (de_call (ok_need_integer T) hr (passes_call (takes_of rfl rfl rfl rfl) (fun _ _ _ _ h => h)) (da_cons (de_var 3) (da_cons de_str (da_cons de_int (da_cons de_int da_nil))))))
  (dss_cons (ds_expr (de_call (ok_need_integer T) hr (passes_call (takes_of rfl rfl rfl rfl) (fun _ _ _ _ h => h)) (da_cons (de_var 4) (da_cons de_str (da_cons de_int (da_cons de_int da_nil))))))
  (dss_cons (ds_set (i := 5) sc.nd (de_call (ok_speed T) hr (passes_call (takes_of rfl rfl rfl rfl) (fun _ _ _ _ h => h)) (da_cons (de_var 0) (da_cons (de_var 1) da_nil))))
  (dss_cons (ds_set (i := 6) sc.nd (de_call (ok_speed T) hr (passes_call (takes_of rfl rfl rfl rfl) (fun _ _ _ _ h => h)) (da_cons (de_var 0) (da_cons (de_var 2) da_nil))))
  (dss_one (ds_ret (de_call (ok_size T) hr (passes_call (takes_of rfl rfl rfl rfl) (fun _ _ _ _ h => h)) (da_cons (de_call (ok_plus T) hr (passes_call (takes_of rfl rfl rfl rfl) (fun _ _ _ _ h => h)) (da_cons (de_tup (da_cons (de_bin op_mulW od_mul (de_ix (de_var 6) de_int) (de_var 4)) (da_cons (de_ix (de_var 6) de_int) da_nil))) (da_cons (de_tup (da_cons (de_bin op_sub od_sub de_int (de_bin op_mulW od_mul (de_ix (de_var 5) de_int) (de_var 3))) (da_cons (de_ix (de_var 5) de_int) da_nil))) da_nil))) da_nil)))))))))))
def sb__law_beats : SS :=
  (sSeq (sPar 5 6 (aCons (eApp 2 fm__law_speed (aCons (eVar 0) (aCons (eVar 1) aNil))) (aCons (eApp 2 fm__law_speed (aCons (eVar 0) (aCons (eVar 2) aNil))) aNil)))
  (sRet (eApp 2 fm__law_frac (aCons (eCall vAbs (aCons (eBin vSub (eBin vMul (eBin vMul (eBin vIx (eVar 6) (eP (.int 0))) (eVar 4)) (eBin vIx (eVar 5) (eP (.int 1)))) (eBin vMul (eBin vMul (eBin vIx (eVar 5) (eP (.int 0))) (eVar 3)) (eBin vIx (eVar 6) (eP (.int 1))))) aNil)) (aCons (eBin vMul (eBin vIx (eVar 5) (eP (.int 1))) (eBin vIx (eVar 6) (eP (.int 1)))) aNil)))))
def fm__law_beats : FM := fnM 7 sb__law_beats
theorem sc__law_beats : FnScope (["tuning", "low", "high", "above", "below", "one", "other"] : List Str) ["tuning", "low", "high", "above", "below"] (defScope (top 42)) := ⟨rfl, rfl, rfl, by decide +kernel, rfl, by decide +kernel, by decide +kernel⟩
theorem bd__law_beats : BindOk "_law_beats" (top 42) ["tuning", "low", "high", "above", "below"] := by
  intro kV doc pm an cdv ct us ws hl
  have h : (us.length = 0 ∧ ws.length = 5) ∨ (us.length = 1 ∧ ws.length = 4) ∨ (us.length = 2 ∧ ws.length = 3) ∨ (us.length = 3 ∧ ws.length = 2) ∨ (us.length = 4 ∧ ws.length = 1) ∨ (us.length = 5 ∧ ws.length = 0) := by simp only [List.length_cons, List.length_nil] at hl; omega
  rcases h with ⟨h1, h2⟩ | ⟨h1, h2⟩ | ⟨h1, h2⟩ | ⟨h1, h2⟩ | ⟨h1, h2⟩ | ⟨h1, h2⟩
  · match us, h1, ws, h2 with
    | [], _, [_, _, _, _, _], _ => rfl
  · match us, h1, ws, h2 with
    | [_], _, [_, _, _, _], _ => rfl
  · match us, h1, ws, h2 with
    | [_, _], _, [_, _, _], _ => rfl
  · match us, h1, ws, h2 with
    | [_, _, _], _, [_, _], _ => rfl
  · match us, h1, ws, h2 with
    | [_, _, _, _], _, [_], _ => rfl
  · match us, h1, ws, h2 with
    | [_, _, _, _, _], _, [], _ => rfl
theorem ok__law_beats (T : Txt g P w K mg base fI) : DefOk g P w K mg base 4 "_law_beats" ["tuning", "low", "high", "above", "below"] fm__law_beats := by
  have sc := sc__law_beats
  exact T.f__law_beats.ok sc bd__law_beats fun f cdv A outer s H E t hr =>
  (dss_cons (ds_par (i := 5) (j := 6) sc.nd (da_cons (de_call (ok__law_speed T) hr (passes_call (takes_of rfl rfl rfl rfl) (fun _ _ _ _ h => h)) (da_cons (de_var 0) (da_cons (de_var 1) da_nil))) (da_cons (de_call (ok__law_speed T) hr (passes_call (takes_of rfl rfl rfl rfl) (fun _ _ _ _ h => h)) (da_cons (de_var 0) (da_cons (de_var 2) da_nil))) da_nil)))
  (dss_one (ds_ret (de_call (ok__law_frac T) hr (passes_call (takes_of rfl rfl rfl rfl) (fun _ _ _ _ h => h)) (da_cons (de_callB call_abs cd_abs T.b_abs (by decide +kernel) (da_cons (de_bin op_sub od_sub (de_bin op_mulW od_mul (de_bin op_mulW od_mul (de_ix (de_var 6) de_int) (de_var 4)) (de_ix (de_var 5) de_int)) (de_bin op_mulW od_mul (de_bin op_mulW od_mul (de_ix (de_var 5) de_int) (de_var 3)) (de_ix (de_var 6) de_int))) da_nil)) (da_cons (de_bin op_mulW od_mul (de_ix (de_var 5) de_int) (de_ix (de_var 6) de_int)) da_nil))))))
def sb_pure_pairs : SS :=
  (sSeq (sExpr (eApp 2 fm_need_tuning (aCons (eVar 0) (aCons (eP (.str "tuning")) aNil))))
  (sSeq (sExpr (eApp 4 fm_need_integer (aCons (eVar 1) (aCons (eP (.str "above")) (aCons (eP (.int 1)) (aCons (eP (.int 20)) aNil))))))
  (sSeq (sExpr (eApp 4 fm_need_integer (aCons (eVar 2) (aCons (eP (.str "below")) (aCons (eP (.int 1)) (aCons (eP (.int 20)) aNil))))))
  (sSeq (sSet 3 (eApp 2 fm_ratio (aCons (eVar 1) (aCons (eVar 2) aNil))))
  (sSeq (sOwnL 4 aNil)
  (sSeq (sFor (it1 (eCall vLen (aCons (eVar 0) aNil))) (tgN 5)
  (sFor (it2 (eVar 5) (eBin vAdd (eBin vAdd (eVar 5) (eCall vLen (aCons (eVar 0) aNil))) (eP (.int 1)))) (tgN 6)
    (sSeq (sSet 7 (eApp 2 fm_speed (aCons (eVar 0) (aCons (eVar 5) aNil))))
      (sSeq (sSet 8 (eApp 2 fm_speed (aCons (eVar 0) (aCons (eVar 6) aNil))))
      (sIf (tstV (eBin vEq (eApp 2 fm_ratio (aCons (eBin vMul (eBin vIx (eVar 8) (eP (.int 0))) (eBin vIx (eVar 7) (eP (.int 1)))) (aCons (eBin vMul (eBin vIx (eVar 8) (eP (.int 1))) (eBin vIx (eVar 7) (eP (.int 0)))) aNil))) (eVar 3))) (sMutL 4 mAppend (aCons (eTup (aCons (eVar 5) (aCons (eVar 6) aNil))) aNil)) sNx)))))
  (sRet (eCall vTuple1 (aCons (eVar 4) aNil)))))))))
def fm_pure_pairs : FM := fnM 9 sb_pure_pairs
theorem sc_pure_pairs : FnScope (["tuning", "above", "below", "wanted", "found", "low", "high", "one", "other"] : List Str) ["tuning", "above", "below"] (defScope (top 24)) := ⟨rfl, rfl, rfl, by decide +kernel, rfl, by decide +kernel, by decide +kernel⟩
theorem bd_pure_pairs : BindOk "pure_pairs" (top 24) ["tuning", "above", "below"] := by
  intro kV doc pm an cdv ct us ws hl
  have h : (us.length = 0 ∧ ws.length = 3) ∨ (us.length = 1 ∧ ws.length = 2) ∨ (us.length = 2 ∧ ws.length = 1) ∨ (us.length = 3 ∧ ws.length = 0) := by simp only [List.length_cons, List.length_nil] at hl; omega
  rcases h with ⟨h1, h2⟩ | ⟨h1, h2⟩ | ⟨h1, h2⟩ | ⟨h1, h2⟩
  · match us, h1, ws, h2 with
    | [], _, [_, _, _], _ => rfl
  · match us, h1, ws, h2 with
    | [_], _, [_, _], _ => rfl
  · match us, h1, ws, h2 with
    | [_, _], _, [_], _ => rfl
  · match us, h1, ws, h2 with
    | [_, _, _], _, [], _ => rfl
theorem ok_pure_pairs (T : Txt g P w K mg base fI) : DefOk g P w K mg base 7 "pure_pairs" ["tuning", "above", "below"] fm_pure_pairs := by
  have sc := sc_pure_pairs
  exact T.f_pure_pairs.ok sc bd_pure_pairs fun f cdv A outer s H E t hr =>
  (dss_cons (ds_expr (de_call (ok_need_tuning T) hr (passes_call (takes_of rfl rfl rfl rfl) (fun _ _ _ _ h => h)) (da_cons (de_var 0) (da_cons de_str da_nil))))
  (dss_cons (ds_expr (de_call (ok_need_integer T) hr (passes_call (takes_of rfl rfl rfl rfl) (fun _ _ _ _ h => h)) (da_cons (de_var 1) (da_cons de_str (da_cons de_int (da_cons de_int da_nil))))))
  (dss_cons (ds_expr (de_call (ok_need_integer T) hr (passes_call (takes_of rfl rfl rfl rfl) (fun _ _ _ _ h => h)) (da_cons (de_var 2) (da_cons de_str (da_cons de_int (da_cons de_int da_nil))))))
  (dss_cons (ds_set (i := 3) sc.nd (de_call (ok_ratio T) hr (passes_call (takes_of rfl rfl rfl rfl) (fun _ _ _ _ h => h)) (da_cons (de_var 1) (da_cons (de_var 2) da_nil))))
  (dss_cons (ds_ownL (i := 4) sc.nd da_nil)
  (dss_cons (ds_for (di_r1 T.b_range (de_callB call_lenX cd_len T.b_len (by decide +kernel) (da_cons (de_var 0) da_nil))) (dg_name (i := 5) sc.nd)
  (dss_one (ds_for (di_r2 T.b_range (de_var 5) (de_bin op_addD od_add (de_bin op_addD od_add (de_var 5) (de_callB call_lenX cd_len T.b_len (by decide +kernel) (da_cons (de_var 0) da_nil))) de_int)) (dg_name (i := 6) sc.nd)
    (dss_cons (ds_set (i := 7) sc.nd (de_call (ok_speed T) hr (passes_call (takes_of rfl rfl rfl rfl) (fun _ _ _ _ h => h)) (da_cons (de_var 0) (da_cons (de_var 5) da_nil))))
      (dss_cons (ds_set (i := 8) sc.nd (de_call (ok_speed T) hr (passes_call (takes_of rfl rfl rfl rfl) (fun _ _ _ _ h => h)) (da_cons (de_var 0) (da_cons (de_var 6) da_nil))))
      (dss_one (ds_if (dt_cmp (op_eqX hr) od_eq (by first | rfl | with_unfolding_all rfl) (de_call (ok_ratio T) hr (passes_call (takes_of rfl rfl rfl rfl) (fun _ _ _ _ h => h)) (da_cons (de_bin op_mulW od_mul (de_ix (de_var 8) de_int) (de_ix (de_var 7) de_int)) (da_cons (de_bin op_mulW od_mul (de_ix (de_var 8) de_int) (de_ix (de_var 7) de_int)) da_nil))) (de_var 3)) (dss_one (ds_mutL (i := 4) F.slot_list_append F.type_list_append mt_append mut_append (da_cons (de_tup (da_cons (de_var 5) (da_cons (de_var 6) da_nil))) da_nil))) dss_nil)))))))
  (dss_one (ds_ret (de_callTy call_tuple_of cd_tuple T.b_tuple (by decide +kernel) (da_cons (de_var 4) da_nil))))))))))
def sb_nearest : SS :=
  (sSeq (sExpr (eApp 2 fm_need_tuning (aCons (eVar 0) (aCons (eP (.str "tuning")) aNil))))
  (sSeq (sExpr (eApp 4 fm_need_integer (aCons (eVar 1) (aCons (eP (.str "low")) (aCons (eP (.int 0)) (aCons (eBin vSub (eCall vLen (aCons (eVar 0) aNil)) (eP (.int 1))) aNil))))))
  (sSeq (sExpr (eApp 4 fm_need_integer (aCons (eVar 2) (aCons (eP (.str "above")) (aCons (eP (.int 1)) (aCons (eP (.int 20)) aNil))))))
  (sSeq (sExpr (eApp 4 fm_need_integer (aCons (eVar 3) (aCons (eP (.str "below")) (aCons (eP (.int 1)) (aCons (eP (.int 20)) aNil))))))
  (sSeq (sSet 4 (eP .none))
  (sSeq (sFor (it2 (eVar 1) (eBin vAdd (eBin vAdd (eVar 1) (eBin vMul (eP (.int 5)) (eCall vLen (aCons (eVar 0) aNil)))) (eP (.int 1)))) (tgN 5)
  (sSeq (sSet 6 (eIf (tstV (eBin vLe (eVar 5) (eP (.int 60)))) (eApp 5 fm_beats (aCons (eVar 0) (aCons (eVar 1) (aCons (eVar 5) (aCons (eVar 2) (aCons (eVar 3) aNil)))))) (eP .none)))
    (sIf (tAndD (tstV (eBin vIsNN (eVar 6) (eP .none))) (tOrD (tstV (eBin vIsN (eVar 4) (eP .none))) (tstV (eApp 2 fm_is_less (aCons (eVar 6) (aCons (eBin vIx (eVar 4) (eP (.int 1))) aNil)))))) (sSet 4 (eTup (aCons (eVar 5) (aCons (eVar 6) aNil)))) sNx)))
  (sRet (eVar 4))))))))
def fm_nearest : FM := fnM 7 sb_nearest
theorem sc_nearest : FnScope (["tuning", "low", "above", "below", "best", "high", "own"] : List Str) ["tuning", "low", "above", "below"] (defScope (top 25)) := ⟨rfl, rfl, rfl, by decide +kernel, rfl, by decide +kernel, by decide +kernel⟩
theorem bd_nearest : BindOk "nearest" (top 25) ["tuning", "low", "above", "below"] := by
  intro kV doc pm an cdv ct us ws hl
  have h : (us.length = 0 ∧ ws.length = 4) ∨ (us.length = 1 ∧ ws.length = 3) ∨ (us.length = 2 ∧ ws.length = 2) ∨ (us.length = 3 ∧ ws.length = 1) ∨ (us.length = 4 ∧ ws.length = 0) := by simp only [List.length_cons, List.length_nil] at hl; omega
  rcases h with ⟨h1, h2⟩ | ⟨h1, h2⟩ | ⟨h1, h2⟩ | ⟨h1, h2⟩ | ⟨h1, h2⟩
  · match us, h1, ws, h2 with
    | [], _, [_, _, _, _], _ => rfl
  · match us, h1, ws, h2 with
    | [_], _, [_, _, _], _ => rfl
  · match us, h1, ws, h2 with
    | [_, _], _, [_, _], _ => rfl
  · match us, h1, ws, h2 with
    | [_, _, _], _, [_], _ => rfl
  · match us, h1, ws, h2 with
    | [_, _, _, _], _, [], _ => rfl
theorem ok_nearest (T : Txt g P w K mg base fI) : DefOk g P w K mg base 8 "nearest" ["tuning", "low", "above", "below"] fm_nearest := by
  have sc := sc_nearest
  exact T.f_nearest.ok sc bd_nearest fun f cdv A outer s H E t hr =>
  (dss_cons (ds_expr (de_call (ok_need_tuning T) hr (passes_call (takes_of rfl rfl rfl rfl) (fun _ _ _ _ h => h)) (da_cons (de_var 0) (da_cons de_str da_nil))))
  (dss_cons (ds_expr (de_call (ok_need_integer T) hr (passes_call (takes_of rfl rfl rfl rfl) (fun _ _ _ _ h => h)) (da_cons (de_var 1) (da_cons de_str (da_cons de_int (da_cons (de_bin op_sub od_sub (de_callB call_lenX cd_len T.b_len (by decide +kernel) (da_cons (de_var 0) da_nil)) de_int) da_nil))))))
  (dss_cons (ds_expr (de_call (ok_need_integer T) hr (passes_call (takes_of rfl rfl rfl rfl) (fun _ _ _ _ h => h)) (da_cons (de_var 2) (da_cons de_str (da_cons de_int (da_cons de_int da_nil))))))
  (dss_cons (ds_expr (de_call (ok_need_integer T) hr (passes_call (takes_of rfl rfl rfl rfl) (fun _ _ _ _ h => h)) (da_cons (de_var 3) (da_cons de_str (da_cons de_int (da_cons de_int da_nil))))))
  (dss_cons (ds_set (i := 4) sc.nd de_non)
  (dss_cons (ds_for (di_r2 T.b_range (de_var 1) (de_bin op_addD od_add (de_bin op_addD od_add (de_var 1) (de_bin op_mulW od_mul de_int (de_callB call_lenX cd_len T.b_len (by decide +kernel) (da_cons (de_var 0) da_nil)))) de_int)) (dg_name (i := 5) sc.nd)
  (dss_cons (ds_set (i := 6) sc.nd (de_if (dt_cmp op_le od_le (by first | rfl | with_unfolding_all rfl) (de_var 5) (de_globI T.c_MOST_STEP (by rfl))) (de_call (ok_beats T) hr (passes_call (takes_of rfl rfl rfl rfl) (fun _ _ _ _ h => h)) (da_cons (de_var 0) (da_cons (de_var 1) (da_cons (de_var 5) (da_cons (de_var 2) (da_cons (de_var 3) da_nil)))))) de_non))
    (dss_one (ds_if (DW.dt (dw_and (dt_cmp op_notN od_isNN (by first | rfl | with_unfolding_all rfl) (de_var 6) de_non) (dw_and1 (DW.dt (dw_or (dt_cmp op_isN od_isN (by first | rfl | with_unfolding_all rfl) (de_var 4) de_non) (dw_or1 (dt_val (de_call (ok_is_less T) hr (passes_call (takes_of rfl rfl rfl rfl) (fun _ _ _ _ h => h)) (da_cons (de_var 6) (da_cons (de_ix (de_var 4) de_int) da_nil)))))))))) (dss_one (ds_set (i := 4) sc.nd (de_tup (da_cons (de_var 5) (da_cons (de_var 6) da_nil))))) dss_nil))))
  (dss_one (ds_ret (de_var 4)))))))))
def sb_in_octave : SS :=
  (sSeq (sUnp (tgT [1, 2]) (eVar 0))
  (sSeq (sWh (fuelI 2) (tstV (eBin vLt (eVar 1) (eVar 2))) (sAug 1 vMul (eP (.int 2))))
  (sSeq (sWh (fuelI 1) (tstV (eBin vGe (eVar 1) (eBin vMul (eP (.int 2)) (eVar 2)))) (sAug 2 vMul (eP (.int 2))))
  (sRet (eApp 2 fm_ratio (aCons (eVar 1) (aCons (eVar 2) aNil)))))))
def fm_in_octave : FM := fnM 3 sb_in_octave
theorem sc_in_octave : FnScope (["part", "above", "below"] : List Str) ["part"] (defScope (top 17)) := ⟨rfl, rfl, rfl, by decide +kernel, rfl, by decide +kernel, by decide +kernel⟩
theorem bd_in_octave : BindOk "in_octave" (top 17) ["part"] := by
  intro kV doc pm an cdv ct us ws hl
  have h : (us.length = 0 ∧ ws.length = 1) ∨ (us.length = 1 ∧ ws.length = 0) := by simp only [List.length_cons, List.length_nil] at hl; omega
  rcases h with ⟨h1, h2⟩ | ⟨h1, h2⟩
  · match us, h1, ws, h2 with
    | [], _, [_], _ => rfl
  · match us, h1, ws, h2 with
    | [_], _, [], _ => rfl
theorem ok_in_octave (T : Txt g P w K mg base fI) : DefOk g P w K mg base 3 "in_octave" ["part"] fm_in_octave := by
  have sc := sc_in_octave
  exact T.f_in_octave.ok sc bd_in_octave fun f cdv A outer s H E t hr =>
  (dss_cons (ds_unp (de_var 0) (dg_tup (dgs_cons (i := 1) (dg_name (i := 1) sc.nd) (dgs_cons (i := 2) (dg_name (i := 2) sc.nd) dgs_nil))))
  (dss_cons (ds_while (fuelI 2) (dt_cmp (op_ltD hr) od_lt (by first | rfl | with_unfolding_all rfl) (de_var 1) (de_var 2)) (dss_one (ds_aug (i := 1) sc.nd iop_mulW od_mul de_int)))
  (dss_cons (ds_while (fuelI 1) (dt_cmp op_ge od_ge (by first | rfl | with_unfolding_all rfl) (de_var 1) (de_bin op_mulW od_mul de_int (de_var 2))) (dss_one (ds_aug (i := 2) sc.nd iop_mulW od_mul de_int)))
  (dss_one (ds_ret (de_call (ok_ratio T) hr (passes_call (takes_of rfl rfl rfl rfl) (fun _ _ _ _ h => h)) (da_cons (de_var 1) (da_cons (de_var 2) da_nil))))))))
def sb_comma : SS :=
  (sSeq (sExpr (eApp 4 fm_need_integer (aCons (eVar 0) (aCons (eP (.str "above")) (aCons (eP (.int 1)) (aCons (eP (.int 20)) aNil))))))
  (sSeq (sExpr (eApp 4 fm_need_integer (aCons (eVar 1) (aCons (eP (.str "below")) (aCons (eP (.int 1)) (aCons (eP (.int 20)) aNil))))))
  (sSeq (sExpr (eApp 4 fm_need_integer (aCons (eVar 2) (aCons (eP (.str "many")) (aCons (eP (.int 0)) (aCons (eP (.int 12)) aNil))))))
  (sRet (eApp 1 fm_in_octave (aCons (eApp 2 fm_ratio (aCons (eApp 2 fm_power (aCons (eVar 0) (aCons (eVar 2) aNil))) (aCons (eApp 2 fm_power (aCons (eVar 1) (aCons (eVar 2) aNil))) aNil))) aNil))))))
def fm_comma : FM := fnM 3 sb_comma
theorem sc_comma : FnScope (["above", "below", "many"] : List Str) ["above", "below", "many"] (defScope (top 26)) := ⟨rfl, rfl, rfl, by decide +kernel, rfl, by decide +kernel, by decide +kernel⟩
theorem bd_comma : BindOk "comma" (top 26) ["above", "below", "many"] := by
  intro kV doc pm an cdv ct us ws hl
  have h : (us.length = 0 ∧ ws.length = 3) ∨ (us.length = 1 ∧ ws.length = 2) ∨ (us.length = 2 ∧ ws.length = 1) ∨ (us.length = 3 ∧ ws.length = 0) := by simp only [List.length_cons, List.length_nil] at hl; omega
  rcases h with ⟨h1, h2⟩ | ⟨h1, h2⟩ | ⟨h1, h2⟩ | ⟨h1, h2⟩
  · match us, h1, ws, h2 with
    | [], _, [_, _, _], _ => rfl
  · match us, h1, ws, h2 with
    | [_], _, [_, _], _ => rfl
  · match us, h1, ws, h2 with
    | [_, _], _, [_], _ => rfl
  · match us, h1, ws, h2 with
    | [_, _, _], _, [], _ => rfl
theorem ok_comma (T : Txt g P w K mg base fI) : DefOk g P w K mg base 4 "comma" ["above", "below", "many"] fm_comma := by
  have sc := sc_comma
  exact T.f_comma.ok sc bd_comma fun f cdv A outer s H E t hr =>
  (dss_cons (ds_expr (de_call (ok_need_integer T) hr (passes_call (takes_of rfl rfl rfl rfl) (fun _ _ _ _ h => h)) (da_cons (de_var 0) (da_cons de_str (da_cons de_int (da_cons de_int da_nil))))))
  (dss_cons (ds_expr (de_call (ok_need_integer T) hr (passes_call (takes_of rfl rfl rfl rfl) (fun _ _ _ _ h => h)) (da_cons (de_var 1) (da_cons de_str (da_cons de_int (da_cons de_int da_nil))))))
  (dss_cons (ds_expr (de_call (ok_need_integer T) hr (passes_call (takes_of rfl rfl rfl rfl) (fun _ _ _ _ h => h)) (da_cons (de_var 2) (da_cons de_str (da_cons de_int (da_cons de_int da_nil))))))
  (dss_one (ds_ret (de_call (ok_in_octave T) hr (passes_call (takes_of rfl rfl rfl rfl) (fun _ _ _ _ h => h)) (da_cons (de_call (ok_ratio T) hr (passes_call (takes_of rfl rfl rfl rfl) (fun _ _ _ _ h => h)) (da_cons (de_call (ok_power T) hr (passes_call (takes_of rfl rfl rfl rfl) (fun _ _ _ _ h => h)) (da_cons (de_var 0) (da_cons (de_var 2) da_nil))) (da_cons (de_call (ok_power T) hr (passes_call (takes_of rfl rfl rfl rfl) (fun _ _ _ _ h => h)) (da_cons (de_var 1) (da_cons (de_var 2) da_nil))) da_nil))) da_nil)))))))
def sb_in_order : SS :=
  (sSeq (sOwnL 1 aNil)
  (sSeq (sFor (itF (eVar 0)) (tgN 2)
  (sIf (tstV (eBin vNotInD (eVar 2) (eVar 1))) (sSeq (sSet 3 (eCall vLen (aCons (eComp (itS (eVar 1)) (tgN 4) [4] (tstV (eApp 2 fm_is_less (aCons (eVar 4) (aCons (eVar 2) aNil)))) (eP (.int 1))) aNil)))
      (sMutL 1 mInsert (aCons (eVar 3) (aCons (eVar 2) aNil)))) sNx))
  (sRet (eVar 1))))
def fm_in_order : FM := fnM 5 sb_in_order
theorem sc_in_order : FnScope (["rows", "found", "row", "place", "other"] : List Str) ["rows"] (defScope (top 20)) := ⟨rfl, rfl, rfl, by decide +kernel, rfl, by decide +kernel, by decide +kernel⟩
theorem bd_in_order : BindOk "in_order" (top 20) ["rows"] := by
  intro kV doc pm an cdv ct us ws hl
  have h : (us.length = 0 ∧ ws.length = 1) ∨ (us.length = 1 ∧ ws.length = 0) := by simp only [List.length_cons, List.length_nil] at hl; omega
  rcases h with ⟨h1, h2⟩ | ⟨h1, h2⟩
  · match us, h1, ws, h2 with
    | [], _, [_], _ => rfl
  · match us, h1, ws, h2 with
    | [_], _, [], _ => rfl
theorem ok_in_order (T : Txt g P w K mg base fI) : DefOk g P w K mg base 2 "in_order" ["rows"] fm_in_order := by
  have sc := sc_in_order
  exact T.f_in_order.ok sc bd_in_order fun f cdv A outer s H E t hr =>
  (dss_cons (ds_ownL (i := 1) sc.nd da_nil)
  (dss_cons (ds_for (di_seq (de_var 0)) (dg_name (i := 2) sc.nd)
  (dss_one (ds_if (dt_cmp (op_notInX hr) od_notInD (by first | rfl | with_unfolding_all rfl) (de_var 2) (de_var 1)) (dss_cons (ds_set (i := 3) sc.nd (de_callB call_lenX cd_len T.b_len (by decide +kernel) (da_cons (de_lc sc.nd (blkOk_by (own := [("other", 4)]) (by kernel_rfl)) (dic_seq (de_var 1)) (fun _ _ _ _ _ => (dg_name (i := 4) sc.nd)) (fun _ _ _ _ _ => (dts_one (dt_val (de_call (ok_is_less T) hr passL (da_cons (de_var 4) (da_cons (de_var 2) da_nil)))))) (fun _ _ _ _ _ => de_int)) da_nil)))
      (dss_one (ds_mutL (i := 1) F.slot_list_insert F.type_list_insert mt_insert mut_insert (da_cons (de_var 3) (da_cons (de_var 2) da_nil))))) dss_nil)))
  (dss_one (ds_ret (de_var 1)))))
def sb_moved : SS :=
  (sSeq (sExpr (eApp 2 fm_need_tuning (aCons (eVar 0) (aCons (eP (.str "tuning")) aNil))))
  (sSeq (sExpr (eApp 4 fm_need_integer (aCons (eVar 1) (aCons (eP (.str "tone")) (aCons (eP (.int 0)) (aCons (eBin vSub (eCall vLen (aCons (eVar 0) aNil)) (eP (.int 1))) aNil))))))
  (sSeq (sSet 2 (eBin vIx (eVar 0) (eVar 1)))
  (sRet (eCall vTuple1 (aCons (eApp 1 fm_in_order (aCons (eComp (itS (eVar 0)) (tgN 3) [3] (SM.ret true) (eApp 1 fm_in_octave (aCons (eApp 2 fm_ratio (aCons (eBin vMul (eBin vIx (eVar 3) (eP (.int 0))) (eBin vIx (eVar 2) (eP (.int 1)))) (aCons (eBin vMul (eBin vIx (eVar 3) (eP (.int 1))) (eBin vIx (eVar 2) (eP (.int 0)))) aNil))) aNil))) aNil)) aNil))))))
def fm_moved : FM := fnM 4 sb_moved
theorem sc_moved : FnScope (["tuning", "tone", "base", "one"] : List Str) ["tuning", "tone"] (defScope (top 27)) := ⟨rfl, rfl, rfl, by decide +kernel, rfl, by decide +kernel, by decide +kernel⟩
theorem bd_moved : BindOk "moved" (top 27) ["tuning", "tone"] := by
  intro kV doc pm an cdv ct us ws hl
  have h : (us.length = 0 ∧ ws.length = 2) ∨ (us.length = 1 ∧ ws.length = 1) ∨ (us.length = 2 ∧ ws.length = 0) := by simp only [List.length_cons, List.length_nil] at hl; omega
  rcases h with ⟨h1, h2⟩ | ⟨h1, h2⟩ | ⟨h1, h2⟩
  · match us, h1, ws, h2 with
    | [], _, [_, _], _ => rfl
  · match us, h1, ws, h2 with
    | [_], _, [_], _ => rfl
  · match us, h1, ws, h2 with
    | [_, _], _, [], _ => rfl
theorem ok_moved (T : Txt g P w K mg base fI) : DefOk g P w K mg base 7 "moved" ["tuning", "tone"] fm_moved := by
  have sc := sc_moved
  exact T.f_moved.ok sc bd_moved fun f cdv A outer s H E t hr =>
  (dss_cons (ds_expr (de_call (ok_need_tuning T) hr (passes_call (takes_of rfl rfl rfl rfl) (fun _ _ _ _ h => h)) (da_cons (de_var 0) (da_cons de_str da_nil))))
  (dss_cons (ds_expr (de_call (ok_need_integer T) hr (passes_call (takes_of rfl rfl rfl rfl) (fun _ _ _ _ h => h)) (da_cons (de_var 1) (da_cons de_str (da_cons de_int (da_cons (de_bin op_sub od_sub (de_callB call_lenX cd_len T.b_len (by decide +kernel) (da_cons (de_var 0) da_nil)) de_int) da_nil))))))
  (dss_cons (ds_set (i := 2) sc.nd (de_ix (de_var 0) (de_var 1)))
  (dss_one (ds_ret (de_callTy call_tuple_of cd_tuple T.b_tuple (by decide +kernel) (da_cons (de_call (ok_in_order T) hr (passes_call (takes_of rfl rfl rfl rfl) (fun _ _ _ _ h => h)) (da_cons (de_lc sc.nd (blkOk_by (own := [("one", 3)]) (by kernel_rfl)) (dic_seq (de_var 0)) (fun _ _ _ _ _ => (dg_name (i := 3) sc.nd)) (fun _ _ _ _ _ => dts_nil) (fun _ _ _ _ _ => (de_call (ok_in_octave T) hr passL (da_cons (de_call (ok_ratio T) hr passL (da_cons (de_bin op_mulW od_mul (de_ix (de_var 3) de_int) (de_ix (de_var 2) de_int)) (da_cons (de_bin op_mulW od_mul (de_ix (de_var 3) de_int) (de_ix (de_var 2) de_int)) da_nil))) da_nil)))) da_nil)) da_nil)))))))
def sb_same_moved : SS :=
  (sSeq (sExpr (eApp 2 fm_need_tuning (aCons (eVar 0) (aCons (eP (.str "one")) aNil))))
  (sSeq (sExpr (eApp 2 fm_need_tuning (aCons (eVar 1) (aCons (eP (.str "other")) aNil))))
  (sSeq (sFor (it1 (eCall vLen (aCons (eVar 0) aNil))) (tgN 2)
  (sIf (tstV (eBin vEq (eApp 2 fm_moved (aCons (eVar 0) (aCons (eVar 2) aNil))) (eVar 1))) (sRet (eVar 2)) sNx))
  (sRet (eP .none)))))
def fm_same_moved : FM := fnM 3 sb_same_moved
theorem sc_same_moved : FnScope (["one", "other", "tone"] : List Str) ["one", "other"] (defScope (top 28)) := ⟨rfl, rfl, rfl, by decide +kernel, rfl, by decide +kernel, by decide +kernel⟩
theorem bd_same_moved : BindOk "same_moved" (top 28) ["one", "other"] := by
  intro kV doc pm an cdv ct us ws hl
  have h : (us.length = 0 ∧ ws.length = 2) ∨ (us.length = 1 ∧ ws.length = 1) ∨ (us.length = 2 ∧ ws.length = 0) := by simp only [List.length_cons, List.length_nil] at hl; omega
  rcases h with ⟨h1, h2⟩ | ⟨h1, h2⟩ | ⟨h1, h2⟩
  · match us, h1, ws, h2 with
    | [], _, [_, _], _ => rfl
  · match us, h1, ws, h2 with
    | [_], _, [_], _ => rfl
  · match us, h1, ws, h2 with
    | [_, _], _, [], _ => rfl
theorem ok_same_moved (T : Txt g P w K mg base fI) : DefOk g P w K mg base 8 "same_moved" ["one", "other"] fm_same_moved := by
  have sc := sc_same_moved
  exact T.f_same_moved.ok sc bd_same_moved fun f cdv A outer s H E t hr =>
  (dss_cons (ds_expr (de_call (ok_need_tuning T) hr (passes_call (takes_of rfl rfl rfl rfl) (fun _ _ _ _ h => h)) (da_cons (de_var 0) (da_cons de_str da_nil))))
  (dss_cons (ds_expr (de_call (ok_need_tuning T) hr (passes_call (takes_of rfl rfl rfl rfl) (fun _ _ _ _ h => h)) (da_cons (de_var 1) (da_cons de_str da_nil))))
  (dss_cons (ds_for (di_r1 T.b_range (de_callB call_lenX cd_len T.b_len (by decide +kernel) (da_cons (de_var 0) da_nil))) (dg_name (i := 2) sc.nd)
  (dss_one (ds_if (dt_cmp (op_eqX hr) od_eq (by first | rfl | with_unfolding_all rfl) (de_call (ok_moved T) hr (passes_call (takes_of rfl rfl rfl rfl) (fun _ _ _ _ h => h)) (da_cons (de_var 0) (da_cons (de_var 2) da_nil))) (de_var 1)) (dss_one (ds_ret (de_var 2))) dss_nil)))
  (dss_one (ds_ret de_non)))))
def sb_by_fifths : SS :=
  (sSeq (sExpr (eApp 4 fm_need_integer (aCons (eVar 0) (aCons (eP (.str "first")) (aCons (eP (.int 0)) (aCons (eP (.int 11)) aNil))))))
  (sSeq (sExpr (eApp 4 fm_need_integer (aCons (eVar 1) (aCons (eP (.str "many")) (aCons (eP (.int 1)) (aCons (eP (.int 12)) aNil))))))
  (sSeq (sOwnL 2 aNil)
  (sSeq (sFor (it1 (eVar 1)) (tgN 3)
  (sSeq (sSet 4 (eBin vSub (eVar 3) (eVar 0)))
    (sMutL 2 mAppend (aCons (eApp 1 fm_in_octave (aCons (eIf (tstV (eBin vGt (eVar 4) (eP (.int 0)))) (eTup (aCons (eApp 2 fm_power (aCons (eP (.int 3)) (aCons (eVar 4) aNil))) (aCons (eP (.int 1)) aNil))) (eTup (aCons (eP (.int 1)) (aCons (eApp 2 fm_power (aCons (eP (.int 3)) (aCons (eBin vSub (eP (.int 0)) (eVar 4)) aNil))) aNil)))) aNil)) aNil))))
  (sFrz 2 (sRet (eCall vTuple1 (aCons (eApp 1 fm_in_order (aCons (eVar 2) aNil)) aNil))))))))
def fm_by_fifths : FM := fnM 5 sb_by_fifths
theorem sc_by_fifths : FnScope (["first", "many", "rows", "at", "fifths"] : List Str) ["first", "many"] (defScope (top 18)) := ⟨rfl, rfl, rfl, by decide +kernel, rfl, by decide +kernel, by decide +kernel⟩
theorem bd_by_fifths : BindOk "by_fifths" (top 18) ["first", "many"] := by
  intro kV doc pm an cdv ct us ws hl
  have h : (us.length = 0 ∧ ws.length = 2) ∨ (us.length = 1 ∧ ws.length = 1) ∨ (us.length = 2 ∧ ws.length = 0) := by simp only [List.length_cons, List.length_nil] at hl; omega
  rcases h with ⟨h1, h2⟩ | ⟨h1, h2⟩ | ⟨h1, h2⟩
  · match us, h1, ws, h2 with
    | [], _, [_, _], _ => rfl
  · match us, h1, ws, h2 with
    | [_], _, [_], _ => rfl
  · match us, h1, ws, h2 with
    | [_, _], _, [], _ => rfl
theorem ok_by_fifths (T : Txt g P w K mg base fI) : DefOk g P w K mg base 4 "by_fifths" ["first", "many"] fm_by_fifths := by
  have sc := sc_by_fifths
  exact T.f_by_fifths.ok sc bd_by_fifths fun f cdv A outer s H E t hr =>
  (dss_cons (ds_expr (de_call (ok_need_integer T) hr (passes_call (takes_of rfl rfl rfl rfl) (fun _ _ _ _ h => h)) (da_cons (de_var 0) (da_cons de_str (da_cons de_int (da_cons de_int da_nil))))))
  (dss_cons (ds_expr (de_call (ok_need_integer T) hr (passes_call (takes_of rfl rfl rfl rfl) (fun _ _ _ _ h => h)) (da_cons (de_var 1) (da_cons de_str (da_cons de_int (da_cons (de_globI T.c_MOST_TONES (by rfl)) da_nil))))))
  (dss_cons (ds_ownL (i := 2) sc.nd da_nil)
  (dss_cons (ds_for (di_r1 T.b_range (de_var 1)) (dg_name (i := 3) sc.nd)
  (dss_cons (ds_set (i := 4) sc.nd (de_bin op_sub od_sub (de_var 3) (de_var 0)))
    (dss_one (ds_mutL (i := 2) F.slot_list_append F.type_list_append mt_append mut_append (da_cons (de_call (ok_in_octave T) hr (passes_call (takes_of rfl rfl rfl rfl) (fun _ _ _ _ h => h)) (da_cons (de_if (dt_cmp op_gt od_gt (by first | rfl | with_unfolding_all rfl) (de_var 4) de_int) (de_tup (da_cons (de_call (ok_power T) hr (passes_call (takes_of rfl rfl rfl rfl) (fun _ _ _ _ h => h)) (da_cons de_int (da_cons (de_var 4) da_nil))) (da_cons de_int da_nil))) (de_tup (da_cons de_int (da_cons (de_call (ok_power T) hr (passes_call (takes_of rfl rfl rfl rfl) (fun _ _ _ _ h => h)) (da_cons de_int (da_cons (de_bin op_sub od_sub de_int (de_var 4)) da_nil))) da_nil)))) da_nil)) da_nil)))))
  (dss_frz 2 (dss_one (ds_ret (de_callTy call_tuple_of cd_tuple T.b_tuple (by decide +kernel) (da_cons (de_call (ok_in_order T) hr (passes_call (takes_of rfl rfl rfl rfl) (fun _ _ _ _ h => h)) (da_cons (de_var 2) da_nil)) da_nil)))))))))
def sb__law_right : SS :=
  (sSeq (sUnp (tgT [1, 2, 3]) (eTup (aCons (eApp 1 fm__law_tuning (aCons (eVar 0) aNil)) (aCons (eApp 2 fm__law_roll (aCons (eVar 0) (aCons (eP (.int 12)) aNil))) (aCons (eBin vAdd (eP (.int 1)) (eApp 2 fm__law_roll (aCons (eVar 0) (aCons (eP (.int 12)) aNil)))) aNil)))))
  (sSeq (sIf (tOrD (tstV (eBin vNe (eAppK 2 1 fm_by_fifths (aCons (eVar 2) aNil) (aCons (eVar 3) aNil)) (eApp 2 fm__law_fifths (aCons (eVar 2) (aCons (eVar 3) aNil))))) (tNotD (tstV (eApp 1 fm_is_tuning (aCons (eVar 1) aNil))))) (sRet (eP (.bool false))) sNx)
  (sSeq (sUnp (tgT [4, 5, 6, 7]) (eTup (aCons (eApp 2 fm__law_roll (aCons (eVar 0) (aCons (eP (.int 20)) aNil))) (aCons (eApp 2 fm__law_roll (aCons (eVar 0) (aCons (eP (.int 20)) aNil))) (aCons (eBin vAdd (eP (.int 1)) (eApp 2 fm__law_roll (aCons (eVar 0) (aCons (eP (.int 8)) aNil)))) (aCons (eBin vAdd (eP (.int 1)) (eApp 2 fm__law_roll (aCons (eVar 0) (aCons (eP (.int 8)) aNil)))) aNil))))))
  (sSeq (sPar 8 9 (aCons (eApp 2 fm__law_speed (aCons (eVar 1) (aCons (eVar 4) aNil))) (aCons (eApp 2 fm__law_speed (aCons (eVar 1) (aCons (eVar 5) aNil))) aNil)))
  (sSeq (sIf (tstV (eBin vNe (eAppK 3 2 fm_interval (aCons (eVar 1) (aCons (eVar 4) aNil)) (aCons (eVar 5) aNil)) (eApp 2 fm__law_frac (aCons (eBin vMul (eBin vIx (eVar 9) (eP (.int 0))) (eBin vIx (eVar 8) (eP (.int 1)))) (aCons (eBin vMul (eBin vIx (eVar 9) (eP (.int 1))) (eBin vIx (eVar 8) (eP (.int 0)))) aNil))))) (sRet (eP (.bool false))) sNx)
  (sSeq (sIf (tstV (eBin vNe (eAppK 5 4 fm_beats (aCons (eVar 1) (aCons (eVar 4) (aCons (eVar 5) (aCons (eVar 6) aNil)))) (aCons (eVar 7) aNil)) (eApp 5 fm__law_beats (aCons (eVar 1) (aCons (eVar 4) (aCons (eVar 5) (aCons (eVar 6) (aCons (eVar 7) aNil)))))))) (sRet (eP (.bool false))) sNx)
  (sSeq (sSet 10 (eLst aNil))
  (sSeq (sFor (it1 (eCall vLen (aCons (eVar 1) aNil))) (tgN 11)
  (sSet 10 (eBin vAdd (eVar 10) (eComp (it2 (eVar 11) (eBin vAdd (eBin vAdd (eVar 11) (eCall vLen (aCons (eVar 1) aNil))) (eP (.int 1)))) (tgN 13) [13] (tstV (eBin vEq (eBin vIx (eApp 5 fm__law_beats (aCons (eVar 1) (aCons (eVar 11) (aCons (eVar 13) (aCons (eVar 6) (aCons (eVar 7) aNil)))))) (eP (.int 0))) (eP (.int 0)))) (eTup (aCons (eVar 11) (aCons (eVar 13) aNil)))))))
  (sSeq (sIf (tstV (eBin vNe (eAppK 3 2 fm_pure_pairs (aCons (eVar 1) (aCons (eVar 6) aNil)) (aCons (eVar 7) aNil)) (eCall vTuple1 (aCons (eVar 10) aNil)))) (sRet (eP (.bool false))) sNx)
  (sSeq (sUnp (tgT [11, 12]) (eTup (aCons (eApp 2 fm__law_roll (aCons (eVar 0) (aCons (eCall vLen (aCons (eVar 1) aNil)) aNil))) (aCons (eP .none) aNil))))
  (sSeq (sFor (it2 (eVar 11) (eBin vAdd (eCall vMin2 (aCons (eP (.int 60)) (aCons (eBin vAdd (eVar 11) (eBin vMul (eP (.int 5)) (eCall vLen (aCons (eVar 1) aNil)))) aNil))) (eP (.int 1)))) (tgN 13)
  (sSeq (sSet 21 (eApp 5 fm__law_beats (aCons (eVar 1) (aCons (eVar 11) (aCons (eVar 13) (aCons (eVar 6) (aCons (eVar 7) aNil)))))))
    (sSet 12 (eIf (tOrD (tstV (eBin vIsN (eVar 12) (eP .none))) (tstV (eBin vLt (eBin vMul (eBin vIx (eVar 21) (eP (.int 0))) (eBin vIx (eBin vIx (eVar 12) (eP (.int 1))) (eP (.int 1)))) (eBin vMul (eBin vIx (eBin vIx (eVar 12) (eP (.int 1))) (eP (.int 0))) (eBin vIx (eVar 21) (eP (.int 1))))))) (eTup (aCons (eVar 13) (aCons (eVar 21) aNil))) (eVar 12)))))
  (sSeq (sIf (tstV (eBin vNe (eAppK 4 3 fm_nearest (aCons (eVar 1) (aCons (eVar 11) (aCons (eVar 6) aNil))) (aCons (eVar 7) aNil)) (eVar 12))) (sRet (eP (.bool false))) sNx)
  (sSeq (sSet 14 (eApp 2 fm__law_roll (aCons (eVar 0) (aCons (eP (.int 13)) aNil))))
  (sSeq (sIf (tstV (eBin vNe (eAppK 3 2 fm_comma (aCons (eVar 6) (aCons (eVar 7) aNil)) (aCons (eVar 14) aNil)) (eApp 2 fm__law_folded (aCons (eApp 2 fm__law_power (aCons (eVar 6) (aCons (eVar 14) aNil))) (aCons (eApp 2 fm__law_power (aCons (eVar 7) (aCons (eVar 14) aNil))) aNil))))) (sRet (eP (.bool false))) sNx)
  (sSeq (sSet 15 (eApp 2 fm__law_moved (aCons (eVar 1) (aCons (eVar 11) aNil))))
  (sSeq (sIf (tstV (eBin vNe (eAppK 2 1 fm_moved (aCons (eVar 1) aNil) (aCons (eVar 11) aNil)) (eVar 15))) (sRet (eP (.bool false))) sNx)
  (sSeq (sSet 16 (eApp 2 fm__law_pick (aCons (eVar 0) (aCons (eLst (aCons (eVar 15) (aCons (eApp 1 fm__law_tuning (aCons (eVar 0) aNil)) aNil))) aNil))))
  (sSeq (sSet 17 (eComp (it1 (eCall vLen (aCons (eVar 1) aNil))) (tgN 21) [21] (tstV (eBin vEq (eApp 2 fm__law_moved (aCons (eVar 1) (aCons (eVar 21) aNil))) (eVar 16))) (eVar 21)))
  (sSeq (sIf (tstV (eBin vNe (eAppK 2 1 fm_same_moved (aCons (eVar 1) aNil) (aCons (eVar 16) aNil)) (eBin vIx (eBin vAdd (eVar 17) (eLst (aCons (eP .none) aNil))) (eP (.int 0))))) (sRet (eP (.bool false))) sNx)
  (sSeq (sSet 18 (eApp 2 fm__law_pick (aCons (eVar 0) (aCons (eLst (aCons (eP .none) (aCons (eTup aNil) (aCons (eLst (aCons (eTup (aCons (eP (.int 1)) (aCons (eP (.int 1)) aNil))) aNil)) (aCons (eTup (aCons (eTup (aCons (eP (.int 2)) (aCons (eP (.int 1)) aNil))) aNil)) (aCons (eTup (aCons (eTup (aCons (eP (.int 1)) (aCons (eP (.int 1)) aNil))) (aCons (eTup (aCons (eP (.int 1)) (aCons (eP (.int 1)) aNil))) aNil))) (aCons (eTup (aCons (eTup (aCons (eP (.int 1)) (aCons (eP (.int 1)) aNil))) (aCons (eTup (aCons (eP (.int 2)) (aCons (eP (.int 1)) aNil))) aNil))) (aCons (eTup (aCons (eTup (aCons (eP (.int 1)) (aCons (eP (.int 1)) aNil))) (aCons (eTup (aCons (eP (.int 6)) (aCons (eP (.int 4)) aNil))) aNil))) (aCons (eTup (aCons (eTup (aCons (eP (.int 1)) (aCons (eP (.int 1)) aNil))) (aCons (eTup (aCons (eP (.int 5)) (aCons (eP (.int 3)) aNil))) (aCons (eTup (aCons (eP (.int 3)) (aCons (eP (.int 2)) aNil))) aNil)))) (aCons (eBin vRep (eTup (aCons (eTup (aCons (eP (.int 1)) (aCons (eP (.int 1)) aNil))) aNil)) (eP (.int 13))) aNil)))))))))) aNil))))
  (sSeq (sSet 19 (eLst (aCons (eTold (eApp 2 fm_by_fifths (aCons (eP (.int 12)) (aCons (eP .none) aNil)))) (aCons (eTold (eApp 2 fm_by_fifths (aCons (eP (.int 0)) (aCons (eP (.int 13)) aNil)))) (aCons (eTold (eApp 3 fm_interval (aCons (eVar 18) (aCons (eP .none) (aCons (eP .none) aNil))))) (aCons (eTold (eApp 3 fm_interval (aCons (eVar 1) (aCons (eP (.int 61)) (aCons (eP .none) aNil))))) (aCons (eTold (eApp 5 fm_beats (aCons (eVar 1) (aCons (eP (.int 0)) (aCons (eP (.int 0)) (aCons (eP (.int 0)) (aCons (eP .none) aNil))))))) (aCons (eTold (eApp 5 fm_beats (aCons (eVar 1) (aCons (eP (.int 0)) (aCons (eP (.int 0)) (aCons (eP (.int 1)) (aCons (eP (.int 21)) aNil))))))) (aCons (eTold (eApp 3 fm_pure_pairs (aCons (eVar 18) (aCons (eP (.int 1)) (aCons (eP (.int 1)) aNil))))) (aCons (eTold (eApp 4 fm_nearest (aCons (eVar 1) (aCons (eCall vLen (aCons (eVar 1) aNil)) (aCons (eP (.int 1)) (aCons (eP (.int 1)) aNil)))))) (aCons (eTold (eApp 3 fm_comma (aCons (eP (.int 1)) (aCons (eP (.int 0)) (aCons (eP (.int 0)) aNil))))) (aCons (eTold (eApp 3 fm_comma (aCons (eP (.int 3)) (aCons (eP (.int 2)) (aCons (eP (.int 13)) aNil))))) (aCons (eTold (eApp 2 fm_moved (aCons (eVar 1) (aCons (eUn vNeg (eP (.int 1))) aNil)))) (aCons (eTold (eApp 2 fm_same_moved (aCons (eVar 1) (aCons (eVar 18) aNil)))) aNil))))))))))))))
  (sSeq (sSet 20 (eLst (aCons (eP (.str "first")) (aCons (eP (.str "many")) (aCons (eP (.str "tuning")) (aCons (eP (.str "low")) (aCons (eP (.str "above")) (aCons (eP (.str "below")) (aCons (eP (.str "tuning")) (aCons (eP (.str "low")) (aCons (eP (.str "below")) (aCons (eP (.str "many")) (aCons (eP (.str "tone")) (aCons (eP (.str "other")) aNil))))))))))))))
  (sRet (eAnd (eBin vEq (eVar 19) (eVar 20)) (eNot (eApp 1 fm_is_tuning (aCons (eVar 18) aNil)))))))))))))))))))))))))))
def fm__law_right : FM := fnM 22 sb__law_right
theorem sc__law_right : FnScope (["dice", "tuning", "first", "many", "low", "high", "above", "below", "one", "other", "pairs", "tone", "best", "key", "count", "turned", "second", "same", "bad", "told", "due", "own"] : List Str) ["dice"] (defScope (top 44)) := ⟨rfl, rfl, rfl, by decide +kernel, rfl, by decide +kernel, by decide +kernel⟩
theorem bd__law_right : BindOk "_law_right" (top 44) ["dice"] := by
  intro kV doc pm an cdv ct us ws hl
  have h : (us.length = 0 ∧ ws.length = 1) ∨ (us.length = 1 ∧ ws.length = 0) := by simp only [List.length_cons, List.length_nil] at hl; omega
  rcases h with ⟨h1, h2⟩ | ⟨h1, h2⟩
  · match us, h1, ws, h2 with
    | [], _, [_], _ => rfl
  · match us, h1, ws, h2 with
    | [_], _, [], _ => rfl
theorem ok__law_right (T : Txt g P w K mg base fI) : DefOk g P w K mg base 11 "_law_right" ["dice"] fm__law_right := by
  have sc := sc__law_right
  obtain ⟨c, P0, FT⟩ := T.t__law_right
  exact FT.ok sc bd__law_right fun f A outer s H E t hr =>
  (dss_cons (ds_unp (de_tup (da_cons (de_call (ok__law_tuning T) hr (passes_call (takes_of rfl rfl rfl rfl) (fun _ _ _ _ h => h)) (da_cons (de_var 0) da_nil)) (da_cons (de_call (ok__law_roll T) hr (passes_call (takes_of rfl rfl rfl rfl) (fun _ _ _ _ h => h)) (da_cons (de_var 0) (da_cons de_int da_nil))) (da_cons (de_bin op_addD od_add de_int (de_call (ok__law_roll T) hr (passes_call (takes_of rfl rfl rfl rfl) (fun _ _ _ _ h => h)) (da_cons (de_var 0) (da_cons de_int da_nil)))) da_nil)))) (dg_tup (dgs_cons (i := 1) (dg_name (i := 1) sc.nd) (dgs_cons (i := 2) (dg_name (i := 2) sc.nd) (dgs_cons (i := 3) (dg_name (i := 3) sc.nd) dgs_nil)))))
  (dss_cons (ds_if (DW.dt (dw_or (dt_cmp (op_neX hr) od_ne (by first | rfl | with_unfolding_all rfl) (de_callK 1 (ok_by_fifths T) hr (passes_call (takes_of rfl rfl rfl rfl) (fun _ _ _ _ h => h)) (da_cons (de_var 2) da_nil) (dk_cons (de_var 3) dk_nil)) (de_call (ok__law_fifths T) hr (passes_call (takes_of rfl rfl rfl rfl) (fun _ _ _ _ h => h)) (da_cons (de_var 2) (da_cons (de_var 3) da_nil)))) (dw_or1 (dt_not (dt_val (de_call (ok_is_tuning T) hr (passes_call (takes_of rfl rfl rfl rfl) (fun _ _ _ _ h => h)) (da_cons (de_var 1) da_nil))))))) (dss_one (ds_ret de_bl)) dss_nil)
  (dss_cons (ds_unp (de_tup (da_cons (de_call (ok__law_roll T) hr (passes_call (takes_of rfl rfl rfl rfl) (fun _ _ _ _ h => h)) (da_cons (de_var 0) (da_cons de_int da_nil))) (da_cons (de_call (ok__law_roll T) hr (passes_call (takes_of rfl rfl rfl rfl) (fun _ _ _ _ h => h)) (da_cons (de_var 0) (da_cons de_int da_nil))) (da_cons (de_bin op_addD od_add de_int (de_call (ok__law_roll T) hr (passes_call (takes_of rfl rfl rfl rfl) (fun _ _ _ _ h => h)) (da_cons (de_var 0) (da_cons de_int da_nil)))) (da_cons (de_bin op_addD od_add de_int (de_call (ok__law_roll T) hr (passes_call (takes_of rfl rfl rfl rfl) (fun _ _ _ _ h => h)) (da_cons (de_var 0) (da_cons de_int da_nil)))) da_nil))))) (dg_tup (dgs_cons (i := 4) (dg_name (i := 4) sc.nd) (dgs_cons (i := 5) (dg_name (i := 5) sc.nd) (dgs_cons (i := 6) (dg_name (i := 6) sc.nd) (dgs_cons (i := 7) (dg_name (i := 7) sc.nd) dgs_nil))))))
  (dss_cons (ds_par (i := 8) (j := 9) sc.nd (da_cons (de_call (ok__law_speed T) hr (passes_call (takes_of rfl rfl rfl rfl) (fun _ _ _ _ h => h)) (da_cons (de_var 1) (da_cons (de_var 4) da_nil))) (da_cons (de_call (ok__law_speed T) hr (passes_call (takes_of rfl rfl rfl rfl) (fun _ _ _ _ h => h)) (da_cons (de_var 1) (da_cons (de_var 5) da_nil))) da_nil)))
  (dss_cons (ds_if (dt_cmp (op_neX hr) od_ne (by first | rfl | with_unfolding_all rfl) (de_callK 2 (ok_interval T) hr (passes_call (takes_of rfl rfl rfl rfl) (fun _ _ _ _ h => h)) (da_cons (de_var 1) (da_cons (de_var 4) da_nil)) (dk_cons (de_var 5) dk_nil)) (de_call (ok__law_frac T) hr (passes_call (takes_of rfl rfl rfl rfl) (fun _ _ _ _ h => h)) (da_cons (de_bin op_mulW od_mul (de_ix (de_var 9) de_int) (de_ix (de_var 8) de_int)) (da_cons (de_bin op_mulW od_mul (de_ix (de_var 9) de_int) (de_ix (de_var 8) de_int)) da_nil)))) (dss_one (ds_ret de_bl)) dss_nil)
  (dss_cons (ds_if (dt_cmp (op_neX hr) od_ne (by first | rfl | with_unfolding_all rfl) (de_callK 4 (ok_beats T) hr (passes_call (takes_of rfl rfl rfl rfl) (fun _ _ _ _ h => h)) (da_cons (de_var 1) (da_cons (de_var 4) (da_cons (de_var 5) (da_cons (de_var 6) da_nil)))) (dk_cons (de_var 7) dk_nil)) (de_call (ok__law_beats T) hr (passes_call (takes_of rfl rfl rfl rfl) (fun _ _ _ _ h => h)) (da_cons (de_var 1) (da_cons (de_var 4) (da_cons (de_var 5) (da_cons (de_var 6) (da_cons (de_var 7) da_nil))))))) (dss_one (ds_ret de_bl)) dss_nil)
  (dss_cons (ds_set (i := 10) sc.nd (de_lst da_nil))
  (dss_cons (ds_for (di_r1 T.b_range (de_callB call_lenX cd_len T.b_len (by decide +kernel) (da_cons (de_var 1) da_nil))) (dg_name (i := 11) sc.nd)
  (dss_one (ds_set (i := 10) sc.nd (de_bin op_addD od_add (de_var 10) (de_lc sc.nd (blkOk_by (own := [("key", 13)]) (by kernel_rfl)) (dic_r2 T.b_range (de_var 11) (de_bin op_addD od_add (de_bin op_addD od_add (de_var 11) (de_callB call_lenX cd_len T.b_len (by decide +kernel) (da_cons (de_var 1) da_nil))) de_int)) (fun _ _ _ _ _ => (dg_name (i := 13) sc.nd)) (fun _ _ _ _ _ => (dts_one (dt_cmp (op_eqX hr) od_eq (by first | rfl | with_unfolding_all rfl) (de_ix (de_call (ok__law_beats T) hr passL (da_cons (de_var 1) (da_cons (de_var 11) (da_cons (de_var 13) (da_cons (de_var 6) (da_cons (de_var 7) da_nil)))))) de_int) de_int))) (fun _ _ _ _ _ => (de_tup (da_cons (de_var 11) (da_cons (de_var 13) da_nil)))))))))
  (dss_cons (ds_if (dt_cmp (op_neX hr) od_ne (by first | rfl | with_unfolding_all rfl) (de_callK 2 (ok_pure_pairs T) hr (passes_call (takes_of rfl rfl rfl rfl) (fun _ _ _ _ h => h)) (da_cons (de_var 1) (da_cons (de_var 6) da_nil)) (dk_cons (de_var 7) dk_nil)) (de_callTy call_tuple_of cd_tuple T.b_tuple (by decide +kernel) (da_cons (de_var 10) da_nil))) (dss_one (ds_ret de_bl)) dss_nil)
  (dss_cons (ds_unp (de_tup (da_cons (de_call (ok__law_roll T) hr (passes_call (takes_of rfl rfl rfl rfl) (fun _ _ _ _ h => h)) (da_cons (de_var 0) (da_cons (de_callB call_lenX cd_len T.b_len (by decide +kernel) (da_cons (de_var 1) da_nil)) da_nil))) (da_cons de_non da_nil))) (dg_tup (dgs_cons (i := 11) (dg_name (i := 11) sc.nd) (dgs_cons (i := 12) (dg_name (i := 12) sc.nd) dgs_nil))))
  (dss_cons (ds_for (di_r2 T.b_range (de_var 11) (de_bin op_addD od_add (de_callB (call_min2 rfl) cd_min2 T.b_min (by decide +kernel) (da_cons de_int (da_cons (de_bin op_addD od_add (de_var 11) (de_bin op_mulW od_mul de_int (de_callB call_lenX cd_len T.b_len (by decide +kernel) (da_cons (de_var 1) da_nil)))) da_nil))) de_int)) (dg_name (i := 13) sc.nd)
  (dss_cons (ds_set (i := 21) sc.nd (de_call (ok__law_beats T) hr (passes_call (takes_of rfl rfl rfl rfl) (fun _ _ _ _ h => h)) (da_cons (de_var 1) (da_cons (de_var 11) (da_cons (de_var 13) (da_cons (de_var 6) (da_cons (de_var 7) da_nil)))))))
    (dss_one (ds_set (i := 12) sc.nd (de_if (DW.dt (dw_or (dt_cmp op_isN od_isN (by first | rfl | with_unfolding_all rfl) (de_var 12) de_non) (dw_or1 (dt_cmp (op_ltD hr) od_lt (by first | rfl | with_unfolding_all rfl) (de_bin op_mulW od_mul (de_ix (de_var 21) de_int) (de_ix (de_ix (de_var 12) de_int) de_int)) (de_bin op_mulW od_mul (de_ix (de_ix (de_var 12) de_int) de_int) (de_ix (de_var 21) de_int)))))) (de_tup (da_cons (de_var 13) (da_cons (de_var 21) da_nil))) (de_var 12))))))
  (dss_cons (ds_if (dt_cmp (op_neX hr) od_ne (by first | rfl | with_unfolding_all rfl) (de_callK 3 (ok_nearest T) hr (passes_call (takes_of rfl rfl rfl rfl) (fun _ _ _ _ h => h)) (da_cons (de_var 1) (da_cons (de_var 11) (da_cons (de_var 6) da_nil))) (dk_cons (de_var 7) dk_nil)) (de_var 12)) (dss_one (ds_ret de_bl)) dss_nil)
  (dss_cons (ds_set (i := 14) sc.nd (de_call (ok__law_roll T) hr (passes_call (takes_of rfl rfl rfl rfl) (fun _ _ _ _ h => h)) (da_cons (de_var 0) (da_cons de_int da_nil))))
  (dss_cons (ds_if (dt_cmp (op_neX hr) od_ne (by first | rfl | with_unfolding_all rfl) (de_callK 2 (ok_comma T) hr (passes_call (takes_of rfl rfl rfl rfl) (fun _ _ _ _ h => h)) (da_cons (de_var 6) (da_cons (de_var 7) da_nil)) (dk_cons (de_var 14) dk_nil)) (de_call (ok__law_folded T) hr (passes_call (takes_of rfl rfl rfl rfl) (fun _ _ _ _ h => h)) (da_cons (de_call (ok__law_power T) hr (passes_call (takes_of rfl rfl rfl rfl) (fun _ _ _ _ h => h)) (da_cons (de_var 6) (da_cons (de_var 14) da_nil))) (da_cons (de_call (ok__law_power T) hr (passes_call (takes_of rfl rfl rfl rfl) (fun _ _ _ _ h => h)) (da_cons (de_var 7) (da_cons (de_var 14) da_nil))) da_nil)))) (dss_one (ds_ret de_bl)) dss_nil)
  (dss_cons (ds_set (i := 15) sc.nd (de_call (ok__law_moved T) hr (passes_call (takes_of rfl rfl rfl rfl) (fun _ _ _ _ h => h)) (da_cons (de_var 1) (da_cons (de_var 11) da_nil))))
  (dss_cons (ds_if (dt_cmp (op_neX hr) od_ne (by first | rfl | with_unfolding_all rfl) (de_callK 1 (ok_moved T) hr (passes_call (takes_of rfl rfl rfl rfl) (fun _ _ _ _ h => h)) (da_cons (de_var 1) da_nil) (dk_cons (de_var 11) dk_nil)) (de_var 15)) (dss_one (ds_ret de_bl)) dss_nil)
  (dss_cons (ds_set (i := 16) sc.nd (de_call (ok__law_pick T) hr (passes_call (takes_of rfl rfl rfl rfl) (fun _ _ _ _ h => h)) (da_cons (de_var 0) (da_cons (de_lst (da_cons (de_var 15) (da_cons (de_call (ok__law_tuning T) hr (passes_call (takes_of rfl rfl rfl rfl) (fun _ _ _ _ h => h)) (da_cons (de_var 0) da_nil)) da_nil))) da_nil))))
  (dss_cons (ds_setLc (i := 17) sc.nd (blkOk_by (own := [("own", 21)]) (by kernel_rfl)) (by rfl) (dic_r1 T.b_range (de_callB call_lenX cd_len T.b_len (by decide +kernel) (da_cons (de_var 1) da_nil))) (fun _ _ _ _ _ => (dg_name (i := 21) sc.nd)) (fun _ _ _ _ _ => (dts_one (dt_cmp (op_eqX hr) od_eq (by first | rfl | with_unfolding_all rfl) (de_call (ok__law_moved T) hr passL (da_cons (de_var 1) (da_cons (de_var 21) da_nil))) (de_var 16)))) (fun _ _ _ _ _ => (de_var 21)))
  (dss_cons (ds_if (dt_cmp (op_neX hr) od_ne (by first | rfl | with_unfolding_all rfl) (de_callK 1 (ok_same_moved T) hr (passes_call (takes_of rfl rfl rfl rfl) (fun _ _ _ _ h => h)) (da_cons (de_var 1) da_nil) (dk_cons (de_var 16) dk_nil)) (de_ix (de_bin op_addD od_add (de_var 17) (de_lst (da_cons de_non da_nil))) de_int)) (dss_one (ds_ret de_bl)) dss_nil)
  (dss_cons (ds_set (i := 18) sc.nd (de_call (ok__law_pick T) hr (passes_call (takes_of rfl rfl rfl rfl) (fun _ _ _ _ h => h)) (da_cons (de_var 0) (da_cons (de_lst (da_cons de_non (da_cons (de_tup da_nil) (da_cons (de_lst (da_cons (de_tup (da_cons de_int (da_cons de_int da_nil))) da_nil)) (da_cons (de_tup (da_cons (de_tup (da_cons de_int (da_cons de_int da_nil))) da_nil)) (da_cons (de_tup (da_cons (de_tup (da_cons de_int (da_cons de_int da_nil))) (da_cons (de_tup (da_cons de_int (da_cons de_int da_nil))) da_nil))) (da_cons (de_tup (da_cons (de_tup (da_cons de_int (da_cons de_int da_nil))) (da_cons (de_tup (da_cons de_int (da_cons de_int da_nil))) da_nil))) (da_cons (de_tup (da_cons (de_tup (da_cons de_int (da_cons de_int da_nil))) (da_cons (de_tup (da_cons de_int (da_cons de_int da_nil))) da_nil))) (da_cons (de_tup (da_cons (de_tup (da_cons de_int (da_cons de_int da_nil))) (da_cons (de_tup (da_cons de_int (da_cons de_int da_nil))) (da_cons (de_tup (da_cons de_int (da_cons de_int da_nil))) da_nil)))) (da_cons (de_bin op_repT od_rep (de_tup (da_cons (de_tup (da_cons de_int (da_cons de_int da_nil))) da_nil)) de_int) da_nil)))))))))) da_nil))))
  (dss_cons (ds_set (i := 19) sc.nd (de_lst (da_cons (de_told (k := 4) T.bad (hr.mono (by decide)) T.refused FT rfl (by kernel_rfl) (fun _ _ _ _ _ _ _ _ hr' => (de_call (ok_by_fifths T) hr' (passes_call (takes_of rfl rfl rfl rfl) (fun _ _ _ _ h => h)) (da_cons de_int (da_cons de_non da_nil))))) (da_cons (de_told (k := 4) T.bad (hr.mono (by decide)) T.refused FT rfl (by kernel_rfl) (fun _ _ _ _ _ _ _ _ hr' => (de_call (ok_by_fifths T) hr' (passes_call (takes_of rfl rfl rfl rfl) (fun _ _ _ _ h => h)) (da_cons de_int (da_cons de_int da_nil))))) (da_cons (de_told (k := 7) T.bad (hr.mono (by decide)) T.refused FT rfl (by kernel_rfl) (fun _ _ _ _ _ _ _ _ hr' => (de_call (ok_interval T) hr' (passes_call (takes_of rfl rfl rfl rfl) (fun _ _ _ _ h => h)) (da_cons (de_var 18) (da_cons de_non (da_cons de_non da_nil)))))) (da_cons (de_told (k := 7) T.bad (hr.mono (by decide)) T.refused FT rfl (by kernel_rfl) (fun _ _ _ _ _ _ _ _ hr' => (de_call (ok_interval T) hr' (passes_call (takes_of rfl rfl rfl rfl) (fun _ _ _ _ h => h)) (da_cons (de_var 1) (da_cons de_int (da_cons de_non da_nil)))))) (da_cons (de_told (k := 7) T.bad (hr.mono (by decide)) T.refused FT rfl (by kernel_rfl) (fun _ _ _ _ _ _ _ _ hr' => (de_call (ok_beats T) hr' (passes_call (takes_of rfl rfl rfl rfl) (fun _ _ _ _ h => h)) (da_cons (de_var 1) (da_cons de_int (da_cons de_int (da_cons de_int (da_cons de_non da_nil)))))))) (da_cons (de_told (k := 7) T.bad (hr.mono (by decide)) T.refused FT rfl (by kernel_rfl) (fun _ _ _ _ _ _ _ _ hr' => (de_call (ok_beats T) hr' (passes_call (takes_of rfl rfl rfl rfl) (fun _ _ _ _ h => h)) (da_cons (de_var 1) (da_cons de_int (da_cons de_int (da_cons de_int (da_cons de_int da_nil)))))))) (da_cons (de_told (k := 7) T.bad (hr.mono (by decide)) T.refused FT rfl (by kernel_rfl) (fun _ _ _ _ _ _ _ _ hr' => (de_call (ok_pure_pairs T) hr' (passes_call (takes_of rfl rfl rfl rfl) (fun _ _ _ _ h => h)) (da_cons (de_var 18) (da_cons de_int (da_cons de_int da_nil)))))) (da_cons (de_told (k := 8) T.bad (hr.mono (by decide)) T.refused FT rfl (by kernel_rfl) (fun _ _ _ _ _ _ _ _ hr' => (de_call (ok_nearest T) hr' (passes_call (takes_of rfl rfl rfl rfl) (fun _ _ _ _ h => h)) (da_cons (de_var 1) (da_cons (de_callB call_lenX cd_len T.b_len (by decide +kernel) (da_cons (de_var 1) da_nil)) (da_cons de_int (da_cons de_int da_nil))))))) (da_cons (de_told (k := 4) T.bad (hr.mono (by decide)) T.refused FT rfl (by kernel_rfl) (fun _ _ _ _ _ _ _ _ hr' => (de_call (ok_comma T) hr' (passes_call (takes_of rfl rfl rfl rfl) (fun _ _ _ _ h => h)) (da_cons de_int (da_cons de_int (da_cons de_int da_nil)))))) (da_cons (de_told (k := 4) T.bad (hr.mono (by decide)) T.refused FT rfl (by kernel_rfl) (fun _ _ _ _ _ _ _ _ hr' => (de_call (ok_comma T) hr' (passes_call (takes_of rfl rfl rfl rfl) (fun _ _ _ _ h => h)) (da_cons de_int (da_cons de_int (da_cons de_int da_nil)))))) (da_cons (de_told (k := 7) T.bad (hr.mono (by decide)) T.refused FT rfl (by kernel_rfl) (fun _ _ _ _ _ _ _ _ hr' => (de_call (ok_moved T) hr' (passes_call (takes_of rfl rfl rfl rfl) (fun _ _ _ _ h => h)) (da_cons (de_var 1) (da_cons (de_neg de_int) da_nil))))) (da_cons (de_told (k := 8) T.bad (hr.mono (by decide)) T.refused FT rfl (by kernel_rfl) (fun _ _ _ _ _ _ _ _ hr' => (de_call (ok_same_moved T) hr' (passes_call (takes_of rfl rfl rfl rfl) (fun _ _ _ _ h => h)) (da_cons (de_var 1) (da_cons (de_var 18) da_nil))))) da_nil))))))))))))))
  (dss_cons (ds_set (i := 20) sc.nd (de_lst (da_cons de_str (da_cons de_str (da_cons de_str (da_cons de_str (da_cons de_str (da_cons de_str (da_cons de_str (da_cons de_str (da_cons de_str (da_cons de_str (da_cons de_str (da_cons de_str da_nil))))))))))))))
  (dss_one (ds_ret (de_and (de_cmp (op_eqX hr) od_eq (by first | rfl | with_unfolding_all rfl) (de_var 19) (de_var 20)) (de_one (de_not (de_call (ok_is_tuning T) hr (passes_call (takes_of rfl rfl rfl rfl) (fun _ _ _ _ h => h)) (da_cons (de_var 18) da_nil)))))))))))))))))))))))))))))
def sb__law_dice : SS :=
  (sSeq (sSet 2 (eIf (tstV (eBin vLt (eVar 1) (eLenS 0))) (eIxS 0 (eVar 1)) (eBin vAdd (eBin vMul (eP (.int 733)) (eVar 1)) (eP (.int 29)))))
  (sSeq (sSet 3 (eBin vAdd (eP (.int 980027)) (eBin vMul (eP (.int 7907)) (eVar 1))))
  (sSeq (sFor (itF (eBin vAdd (eCutS 0 6) (eLst (aCons (eVar 2) aNil)))) (tgN 4)
  (sSet 3 (eBin vMod (eCall vInt1 (aCons (eBin vAdd (eBin vMul (eVar 3) (eP (.int 48271))) (eBin vMod (eCall vInt1 (aCons (eVar 4) aNil)) (eP (.int 2147480009)))) aNil)) (eP (.int 2147480009)))))
  (sRetL (aCons (eIf (tOrD (tstV (eBin vLt (eVar 2) (eP (.int 0)))) (tstV (eBin vGe (eVar 2) (eBin vPow (eP (.int 10)) (eP (.int 16)))))) (eCall vAbs (aCons (eVar 2) aNil)) (eP (.int 0))) (aCons (eVar 3) (aCons (eP (.int 0)) aNil)))))))
def fm__law_dice : FM := fnM 5 sb__law_dice
theorem sc__law_dice : FnScope (["script", "spot", "own", "mixed", "cell"] : List Str) ["script", "spot"] (defScope (top 30)) := ⟨rfl, rfl, rfl, by decide +kernel, rfl, by decide +kernel, by decide +kernel⟩
theorem bd__law_dice : BindOk "_law_dice" (top 30) ["script", "spot"] := by
  intro kV doc pm an cdv ct us ws hl
  have h : (us.length = 0 ∧ ws.length = 2) ∨ (us.length = 1 ∧ ws.length = 1) ∨ (us.length = 2 ∧ ws.length = 0) := by simp only [List.length_cons, List.length_nil] at hl; omega
  rcases h with ⟨h1, h2⟩ | ⟨h1, h2⟩ | ⟨h1, h2⟩
  · match us, h1, ws, h2 with
    | [], _, [_, _], _ => rfl
  · match us, h1, ws, h2 with
    | [_], _, [_], _ => rfl
  · match us, h1, ws, h2 with
    | [_, _], _, [], _ => rfl
theorem ok__law_dice (T : Txt g P w K mg base fI) : DefOk g P w K mg base 1 "_law_dice" ["script", "spot"] fm__law_dice := by
  have sc := sc__law_dice
  exact T.f__law_dice.ok sc bd__law_dice fun f cdv A outer s H E t hr =>
  (dss_cons (ds_set (i := 2) sc.nd (de_if (dt_cmp (op_ltD hr) od_lt (by first | rfl | with_unfolding_all rfl) (de_var 1) (de_lenS (i := 0) T.hK T.b_len)) (de_ixS (i := 0) T.hK (de_var 1)) (de_bin op_addD od_add (de_bin op_mulW od_mul de_int (de_var 1)) de_int)))
  (dss_cons (ds_set (i := 3) sc.nd (de_bin op_addD od_add de_int (de_bin op_mulW od_mul de_int (de_var 1))))
  (dss_cons (ds_for (di_seq (de_bin op_addD od_add (de_cutS (i := 0) T.hK) (de_lst (da_cons (de_var 2) da_nil)))) (dg_name (i := 4) sc.nd)
  (dss_one (ds_set (i := 3) sc.nd (de_bin op_mod od_mod (de_callTy call_int1 cd_int T.b_int (by decide +kernel) (da_cons (de_bin op_addD od_add (de_bin op_mulW od_mul (de_var 3) de_int) (de_bin op_mod od_mod (de_callTy call_int1 cd_int T.b_int (by decide +kernel) (da_cons (de_var 4) da_nil)) de_int)) da_nil)) de_int))))
  (dss_one (ds_retL (da_cons (de_if (DW.dt (dw_or (dt_cmp (op_ltD hr) od_lt (by first | rfl | with_unfolding_all rfl) (de_var 2) de_int) (dw_or1 (dt_cmp op_ge od_ge (by first | rfl | with_unfolding_all rfl) (de_var 2) (de_bin op_pow od_pow de_int de_int))))) (de_callB call_abs cd_abs T.b_abs (by decide +kernel) (da_cons (de_var 2) da_nil)) de_int) (da_cons (de_var 3) (da_cons de_int da_nil))))))))
def sb_law : SS :=
  (sSeq (sFor (it1 (eCall vMax2 (aCons (eP (.int 1)) (aCons (eCall vMin2 (aCons (eP (.int 5)) (aCons (eLenS 0) aNil))) aNil)))) (tgN 1)
  (sIf (tNotD (tstV (eDiced 2 fm__law_right fm__law_dice (aCons (eVar 0) (aCons (eVar 1) aNil))))) (sRet (eP (.bool false))) sNx))
  (sRet (eP (.bool true))))
def fm_law : FM := fnM 2 sb_law
theorem sc_law : FnScope (["script", "spot"] : List Str) ["script"] (defScope (top 45)) := ⟨rfl, rfl, rfl, by decide +kernel, rfl, by decide +kernel, by decide +kernel⟩
theorem ok_law (T : Txt g P w K mg base fI) {f : Addr} {oc : Value} {od : Option Addr} {kV doc pm : Value} {an : Option Addr} {cdv ct : Value} {osl : Array (Option Value)} (h3 : K.lookup f = some ⟨oc, od, .func (PySem.W.fnOf "law" "law" (defArgs (top 45)) (defBody (top 45)) (defScope (top 45)) .none kV doc pm an cdv ct), osl⟩) (h4 : PySem.W.codeIn K cdv "law" = true) :
    LawOk g P w K mg base 12 "law" ["script"] fm_law f (PySem.W.fnOf "law" "law" (defArgs (top 45)) (defBody (top 45)) (defScope (top 45)) .none kV doc pm an cdv ct) := by
  have sc := sc_law
  exact fun_law h3 h4 sc fun f cdv A outer s H E t had hr =>
  (dss_cons (ds_for (di_r1 T.b_range (de_callB (call_max2 rfl) cd_max2 T.b_max (by decide +kernel) (da_cons de_int (da_cons (de_callB (call_min2 rfl) cd_min2 T.b_min (by decide +kernel) (da_cons de_int (da_cons (de_lenS (i := 0) T.hK T.b_len) da_nil))) da_nil)))) (dg_name (i := 1) sc.nd)
  (dss_one (ds_if (dt_not (dt_val (de_diced (ok__law_right T) (ok__law_dice T) hr (passes_call (takes_of rfl rfl rfl rfl) (fun _ _ _ _ h => h)) had (da_cons (de_var 0) (da_cons (de_var 1) da_nil))))) (dss_one (ds_ret de_bl)) dss_nil)))
  (dss_one (ds_ret de_bl)))
end K02

set_option maxHeartbeats 4000000
namespace DL
open PySem PySem.Spec PyProof.Rows L2
/-! ### loops of the meaning -/
theorem forD_run {tg : Tg} {body : SS} {I : List PyData → Rho → Dc → Prop} {O : Res (Fl × Rho × Dc) → Prop}
    (step : ∀ x xs ρ dc, I (x :: xs) ρ dc → ∃ ρ1, tg x ρ = some ρ1 ∧ ((∃ ρ2 dc2, body ρ1 dc = .ok (.nx, ρ2, dc2) ∧ I xs ρ2 dc2) ∨ (∃ v ρ2 dc2, body ρ1 dc = .ok (.rt v, ρ2, dc2) ∧ O (.ok (.rt v, ρ2, dc2)))))
    (fin : ∀ ρ dc, I [] ρ dc → O (.ok (.nx, ρ, dc))) : ∀ xs ρ dc, I xs ρ dc → O (forD tg body xs ρ dc)
  | [], ρ, dc, h => fin ρ dc h
  | x :: xs, ρ, dc, h => by
    obtain ⟨ρ1, h1, h2⟩ := step x xs ρ dc h
    unfold forD
    rw [h1]
    rcases h2 with ⟨ρ2, dc2, h3, h4⟩ | ⟨v, ρ2, dc2, h3, h4⟩
    · simp only [h3]
      exact forD_run step fin xs ρ2 dc2 h4
    · simp only [h3]
      exact h4
/-- a loop that only goes on -/
theorem forD_fold {tg : Tg} {body : SS} {α : Type} {I : α → Rho → Prop} {dc : Dc} {st : α → PyData → α} : ∀ xs, (∀ x ∈ xs, ∀ a ρ, I a ρ → ∃ ρ1 ρ2, tg x ρ = some ρ1 ∧ body ρ1 dc = .ok (.nx, ρ2, dc) ∧ I (st a x) ρ2) →
    ∀ a ρ, I a ρ → ∃ ρ', forD tg body xs ρ dc = .ok (.nx, ρ', dc) ∧ I (xs.foldl st a) ρ'
  | [], _, a, ρ, h => ⟨ρ, rfl, h⟩
  | x :: xs, hs, a, ρ, h => by
    obtain ⟨ρ1, ρ2, h1, h2, h3⟩ := hs x List.mem_cons_self a ρ h
    obtain ⟨ρ', h4, h5⟩ := forD_fold xs (fun y hy => hs y (List.mem_cons_of_mem _ hy)) (st a x) ρ2 h3
    refine ⟨ρ', ?_, h5⟩
    unfold forD
    rw [h1]
    simp only [h2]
    exact h4
theorem compD_pure {tg : Tg} {test : SM Bool} {elt : SE} {t : PyData → Bool} {f : PyData → PyData} {ρ : Rho} {dc : Dc} : ∀ xs acc, (∀ x ∈ xs, ∃ ρ1, tg x ρ = some ρ1 ∧ test ρ1 dc = .ok (t x, dc) ∧ (t x = true → elt ρ1 dc = .ok (.p (f x), dc))) →
    compD tg test elt xs acc ρ dc = .ok (.p (.list (acc ++ (xs.filter t).map f)), dc)
  | [], acc, _ => by unfold compD; rw [List.filter_nil, List.map_nil, List.append_nil]
  | x :: xs, acc, h => by
    obtain ⟨ρ1, h1, h2, h3⟩ := h x List.mem_cons_self
    unfold compD
    simp only [h1, h2]
    cases q : t x with
    | true =>
      simp only [h3 q]
      rw [compD_pure xs _ fun y hy => h y (List.mem_cons_of_mem _ hy), List.filter_cons_of_pos q, List.map_cons, List.append_assoc]
      rfl
    | false =>
      simp only
      rw [compD_pure xs _ fun y hy => h y (List.mem_cons_of_mem _ hy), List.filter_cons_of_neg (by rw [q]; simp)]
/-- .. whose elements roll the dice -/
theorem compD_dice {tg : Tg} {test : SM Bool} {elt : SE} {f : PyData → PyData → Prop} {ρ : Rho} {I : Nat → Dc → Prop} {c B : Nat} : ∀ xs acc n dc, (∀ x ∈ xs, ∀ n dc, n ≤ B → I n dc → ∃ ρ1, tg x ρ = some ρ1 ∧ ∃ dc1, ((test ρ1 dc = .ok (true, dc1) ∧ ∃ d dc2, elt ρ1 dc1 = .ok (.p d, dc2) ∧ f x d ∧ I (n + c) dc2) ∨ (test ρ1 dc = .ok (false, dc1) ∧ I (n + c) dc1))) → n + c * xs.length ≤ B → I n dc →
    ∃ ys ds dc', compD tg test elt xs acc ρ dc = .ok (.p (.list (acc ++ ds)), dc') ∧ ys.Sublist xs ∧ Paired f ys ds ∧ I (n + c * xs.length) dc'
  | [], acc, n, dc, _, _, h => ⟨[], [], dc, by unfold compD; rw [List.append_nil], .slnil, .nil, by simpa using h⟩
  | x :: xs, acc, n, dc, hs, hB, h => by
    have e : n + c + c * xs.length = n + c * (x :: xs).length := by rw [List.length_cons, Nat.mul_add]; omega
    obtain ⟨ρ1, h1, dc1, h2⟩ := hs x List.mem_cons_self n dc (by omega) h
    unfold compD
    rcases h2 with ⟨h2, d, dc2, h3, h4, h5⟩ | ⟨h2, h3⟩
    · simp only [h1, h2, h3]
      obtain ⟨ys, ds, dc', k1, k2, k3, k4⟩ := compD_dice xs (acc ++ [d]) (n + c) dc2 (fun y hy => hs y (List.mem_cons_of_mem _ hy)) (by omega) h5
      exact ⟨x :: ys, d :: ds, dc', by rw [k1, List.append_assoc]; rfl, .cons₂ _ k2, .cons h4 k3, by rw [← e]; exact k4⟩
    · simp only [h1, h2]
      obtain ⟨ys, ds, dc', k1, k2, k3, k4⟩ := compD_dice xs acc (n + c) dc1 (fun y hy => hs y (List.mem_cons_of_mem _ hy)) (by omega) h3
      exact ⟨ys, ds, dc', k1, .cons _ k2, k3, by rw [← e]; exact k4⟩
theorem allD_true {tf : Tg} {fe : SE} {ρ : Rho} {dc : Dc} : ∀ xs, (∀ x ∈ xs, ∃ ρ1, tf x ρ = some ρ1 ∧ fe ρ1 dc = .ok (.p (.bool true), dc)) → allD tf fe xs ρ dc = .ok (.p (.bool true), dc)
  | [], _ => rfl
  | x :: xs, h => by
    obtain ⟨ρ1, h1, h2⟩ := h x List.mem_cons_self
    unfold allD
    simp only [h1, h2]
    exact allD_true xs fun y hy => h y (List.mem_cons_of_mem _ hy)
theorem allD_eq {tf : Tg} {fe : SE} {ρ : Rho} {dc : Dc} {t : PyData → Bool} : ∀ xs, (∀ x ∈ xs, ∃ ρ1, tf x ρ = some ρ1 ∧ fe ρ1 dc = .ok (.p (.bool (t x)), dc)) → allD tf fe xs ρ dc = .ok (.p (.bool (xs.all t)), dc)
  | [], _ => rfl
  | x :: xs, h => by
    obtain ⟨ρ1, h1, h2⟩ := h x List.mem_cons_self
    unfold allD
    cases q : t x with
    | true =>
      rw [q] at h2
      simp only [h1, h2]
      rw [allD_eq xs fun y hy => h y (List.mem_cons_of_mem _ hy), List.all_cons, q, Bool.true_and]
    | false =>
      rw [q] at h2
      simp only [h1, h2]
      rw [List.all_cons, q, Bool.false_and]
end DL

set_option maxHeartbeats 4000000
namespace DL
open PySem PySem.Spec PyProof.Rows L2
/-! ### the meaning of a term, applied -/
section
variable (i k : Nat) (ρ : Rho) (dc : Dc)
/-- what goes on behind a result -/
def Res.andThen {α β : Type} : Res α → (α → Res β) → Res β
  | .ok a, f => f a
  | .exn n, _ => .exn n
  | .stuck, _ => .stuck
theorem and_ok {α β : Type} (a : α) (f : α → Res β) : Res.andThen (.ok a) f = f a := rfl
theorem and_exn {α β : Type} (n : Str) (f : α → Res β) : Res.andThen (.exn n) f = .exn n := rfl
theorem and_stuck {α β : Type} (f : α → Res β) : Res.andThen (.stuck) f = .stuck := rfl
def Res.opt {α : Type} (dc : Dc) : Option α → Res (α × Dc)
  | some a => .ok (a, dc)
  | none => .stuck
theorem opt_some {α : Type} (a : α) : Res.opt dc (some a) = .ok (a, dc) := rfl
theorem bind_ap {α β : Type} (m : SM α) (f : α → SM β) : SM.bind m f ρ dc = (m ρ dc).andThen fun p => f p.1 ρ p.2 := by
  unfold SM.bind
  cases m ρ dc <;> rfl
theorem thn_ap {α : Type} (m : SM α) (f : α → SS) : SM.thn m f ρ dc = (m ρ dc).andThen fun p => f p.1 ρ p.2 := by
  unfold SM.thn
  cases m ρ dc <;> rfl
theorem ret_ap {α : Type} (a : α) : SM.ret a ρ dc = .ok (a, dc) := rfl
theorem sopt_ap {α : Type} (a : Option α) : SM.opt a ρ dc = Res.opt dc a := by cases a <;> rfl
theorem eP_ap (d : PyData) : eP d ρ dc = .ok (.p d, dc) := rfl
theorem eVar_ap : eVar i ρ dc = match ρ[i]? with | some (some x) => .ok (x, dc) | _ => .stuck := rfl
theorem eBin_ap (f : Val → Val → Option Val) (a b : SE) : eBin f a b ρ dc = (a ρ dc).andThen fun p => (b ρ p.2).andThen fun q => Res.opt q.2 (f p.1 q.1) := by
  unfold eBin
  rw [bind_ap]
  refine congrArg _ (funext fun p => ?_)
  rw [bind_ap]
  refine congrArg _ (funext fun q => ?_)
  rw [sopt_ap]
theorem eUn_ap (f : Val → Option Val) (a : SE) : eUn f a ρ dc = (a ρ dc).andThen fun p => Res.opt p.2 (f p.1) := by
  unfold eUn
  rw [bind_ap]
  refine congrArg _ (funext fun p => ?_)
  rw [sopt_ap]
def chK (f' : Val → Val → Option Val) (y : Val) (c : SE) (ρ : Rho) (dc : Dc) : Val → Res (Val × Dc)
  | .p (.bool true) => (c ρ dc).andThen fun r => Res.opt r.2 (f' y r.1)
  | .p (.bool false) => .ok (.p (.bool false), dc)
  | _ => .stuck
theorem chK_t (f' : Val → Val → Option Val) (y : Val) (c : SE) : chK f' y c ρ dc (.p (.bool true)) = (c ρ dc).andThen fun r => Res.opt r.2 (f' y r.1) := rfl
theorem chK_f (f' : Val → Val → Option Val) (y : Val) (c : SE) : chK f' y c ρ dc (.p (.bool false)) = .ok (.p (.bool false), dc) := rfl
theorem eChain_ap (f f' : Val → Val → Option Val) (a b c : SE) : eChain f f' a b c ρ dc = (a ρ dc).andThen fun p => (b ρ p.2).andThen fun q => (Res.opt q.2 (f p.1 q.1)).andThen fun z => chK f' q.1 c ρ z.2 z.1 := by
  unfold eChain
  rw [bind_ap]
  refine congrArg _ (funext fun p => ?_)
  rw [bind_ap]
  refine congrArg _ (funext fun q => ?_)
  rw [bind_ap, sopt_ap]
  refine congrArg _ (funext fun z => ?_)
  obtain ⟨zv, zd⟩ := z
  cases zv with
  | p d =>
    cases d with
    | bool b =>
      cases b with
      | true =>
        show SM.bind c (fun w => SM.opt (f' q.1 w)) ρ zd = _
        rw [bind_ap]
        refine congrArg _ (funext fun r => ?_)
        rw [sopt_ap]
      | false => rfl
    | _ => rfl
  | _ => rfl
theorem aNil_ap : aNil ρ dc = .ok ([], dc) := rfl
theorem aCons_ap (a : SE) (r : SM (List Val)) : aCons a r ρ dc = (a ρ dc).andThen fun p => (r ρ p.2).andThen fun q => .ok (p.1 :: q.1, q.2) := by
  unfold aCons
  rw [bind_ap]
  refine congrArg _ (funext fun p => ?_)
  rw [bind_ap]
  rfl
theorem eCall_ap (f : List Val → Option Val) (a : SM (List Val)) : eCall f a ρ dc = (a ρ dc).andThen fun p => Res.opt p.2 (f p.1) := by
  unfold eCall
  rw [bind_ap]
  refine congrArg _ (funext fun p => ?_)
  rw [sopt_ap]
def asB (dc : Dc) : Val → Res (Bool × Dc)
  | .p (.bool b) => .ok (b, dc)
  | _ => .stuck
theorem asB_b (b : Bool) : asB dc (.p (.bool b)) = .ok (b, dc) := rfl
theorem tstV_ap (a : SE) : tstV a ρ dc = (a ρ dc).andThen fun p => asB p.2 p.1 := by
  unfold tstV
  rw [bind_ap]
  refine congrArg _ (funext fun p => ?_)
  obtain ⟨zv, zd⟩ := p
  cases zv with
  | p d => cases d <;> rfl
  | _ => rfl
theorem tAnd_ap (a b : SM Bool) : tAndD a b ρ dc = (a ρ dc).andThen fun p => if p.1 = true then b ρ p.2 else .ok (false, p.2) := by
  unfold tAndD
  rw [bind_ap]
  refine congrArg _ (funext fun p => ?_)
  split <;> rfl
theorem tOr_ap (a b : SM Bool) : tOrD a b ρ dc = (a ρ dc).andThen fun p => if p.1 = true then .ok (true, p.2) else b ρ p.2 := by
  unfold tOrD
  rw [bind_ap]
  refine congrArg _ (funext fun p => ?_)
  split <;> rfl
theorem tNot_ap (a : SM Bool) : tNotD a ρ dc = (a ρ dc).andThen fun p => .ok (!p.1, p.2) := by
  unfold tNotD
  rw [bind_ap]
  rfl
theorem eAnd_ap (a b : SE) : eAnd a b ρ dc = (tstV a ρ dc).andThen fun p => if p.1 = true then b ρ p.2 else .ok (.p (.bool false), p.2) := by
  unfold eAnd
  rw [bind_ap]
  refine congrArg _ (funext fun p => ?_)
  split <;> rfl
theorem eOr_ap (a b : SE) : eOr a b ρ dc = (tstV a ρ dc).andThen fun p => if p.1 = true then .ok (.p (.bool true), p.2) else b ρ p.2 := by
  unfold eOr
  rw [bind_ap]
  refine congrArg _ (funext fun p => ?_)
  split <;> rfl
theorem eNot_ap (a : SE) : eNot a ρ dc = (tstV a ρ dc).andThen fun p => .ok (.p (.bool (!p.1)), p.2) := by
  unfold eNot
  rw [bind_ap]
  rfl
theorem eIf_ap (c : SM Bool) (a b : SE) : eIf c a b ρ dc = (c ρ dc).andThen fun p => if p.1 = true then a ρ p.2 else b ρ p.2 := by
  unfold eIf
  rw [bind_ap]
  refine congrArg _ (funext fun p => ?_)
  split <;> rfl
def argB (n : Nat) (fm : FM) (dc : Dc) (xs : List Val) : Res (Val × Dc) := if xs.length = n ∧ xs.all Val.arg = true then fm xs dc else .stuck
theorem argB_ok {n : Nat} {fm : FM} {dc : Dc} {xs : List Val} (h : (decide (xs.length = n) && xs.all Val.arg) = true) : argB n fm dc xs = fm xs dc := by
  rw [Bool.and_eq_true, decide_eq_true_eq] at h
  exact if_pos h
theorem argB_p1 {fm : FM} {dc : Dc} {a : PyData} : argB 1 fm dc [.p a] = fm [.p a] dc := argB_ok rfl
theorem argB_p2 {fm : FM} {dc : Dc} {a b : PyData} : argB 2 fm dc [.p a, .p b] = fm [.p a, .p b] dc := argB_ok rfl
theorem argB_p3 {fm : FM} {dc : Dc} {a b c : PyData} : argB 3 fm dc [.p a, .p b, .p c] = fm [.p a, .p b, .p c] dc := argB_ok rfl
theorem argB_p4 {fm : FM} {dc : Dc} {a b c d : PyData} : argB 4 fm dc [.p a, .p b, .p c, .p d] = fm [.p a, .p b, .p c, .p d] dc := argB_ok rfl
theorem argB_p5 {fm : FM} {dc : Dc} {a b c d e : PyData} : argB 5 fm dc [.p a, .p b, .p c, .p d, .p e] = fm [.p a, .p b, .p c, .p d, .p e] dc := argB_ok rfl
theorem argB_d1 {fm : FM} {dc : Dc} : argB 1 fm dc [.dice] = fm [.dice] dc := argB_ok rfl
theorem argB_d2 {fm : FM} {dc : Dc} {a : PyData} : argB 2 fm dc [.dice, .p a] = fm [.dice, .p a] dc := argB_ok rfl
theorem argB_s2 {fm : FM} {dc : Dc} {a : PyData} {ns : List Int} : argB 2 fm dc [.scr ns, .p a] = fm [.scr ns, .p a] dc := argB_ok rfl
theorem argB_f2 {fm : FM} {dc : Dc} {a : PyData} {kvs : PD} : argB 2 fm dc [.p a, .fd kvs] = fm [.p a, .fd kvs] dc := argB_ok rfl
theorem eApp_ap (n : Nat) (fm : FM) (a : SM (List Val)) : eApp n fm a ρ dc = (a ρ dc).andThen fun p => argB n fm p.2 p.1 := by
  unfold eApp
  rw [bind_ap]
  rfl
theorem eAppK_ap (n j : Nat) (fm : FM) (a b : SM (List Val)) : eAppK n j fm a b ρ dc = (a ρ dc).andThen fun p => (b ρ p.2).andThen fun q => if p.1.length = j then argB n fm q.2 (p.1 ++ q.1) else .stuck := by
  unfold eAppK
  rw [bind_ap]
  refine congrArg _ (funext fun p => ?_)
  rw [bind_ap]
  rfl
theorem eAll_ap (it : SM (List PyData)) (fe : SE) : eAll it i fe ρ dc = (it ρ dc).andThen fun p => allD (tgN i) fe p.1 (wipeR ρ [i]) p.2 := by
  unfold eAll
  rw [bind_ap]
theorem eComp_ap (it : SM (List PyData)) (tg : Tg) (vs : List Nat) (test : SM Bool) (elt : SE) : eComp it tg vs test elt ρ dc = (it ρ dc).andThen fun p => if p.1.length ≤ 100000 then compD tg test elt p.1 [] (wipeR ρ vs) p.2 else .stuck := by
  unfold eComp
  rw [bind_ap]
theorem itS_ap (a : SE) : itS a ρ dc = (a ρ dc).andThen fun p => Res.opt p.2 (sqOf p.1) := by
  unfold itS
  rw [bind_ap]
  refine congrArg _ (funext fun p => ?_)
  rw [sopt_ap]
def frD : Val → Option (List PyData)
  | .p (.list ds) => some ds
  | .p (.tuple ds) => some ds
  | _ => none
theorem itF_ap (a : SE) : itF a ρ dc = (a ρ dc).andThen fun p => Res.opt p.2 (frD p.1) := by
  unfold itF
  rw [bind_ap]
  refine congrArg _ (funext fun p => ?_)
  obtain ⟨zv, zd⟩ := p
  cases zv with
  | p d => cases d <;> rfl
  | _ => rfl
theorem tgN_ap (d : PyData) : tgN i d ρ = some (ρ.set i (some (.p d))) := rfl
theorem tgT_ap (is : List Nat) (ds : List PyData) : tgT is (.tuple ds) ρ = setAll is ds ρ := rfl
theorem seq_ap (a b : SS) : sSeq a b ρ dc = (a ρ dc).andThen fun p => match p.1 with
    | .nx => b p.2.1 p.2.2
    | fl => .ok (fl, p.2) := by
  unfold sSeq
  cases a ρ dc with
  | ok p => obtain ⟨fl, ρ', dc'⟩ := p; cases fl <;> rfl
  | exn n => rfl
  | stuck => rfl
theorem sNx_ap : sNx ρ dc = .ok (.nx, ρ, dc) := rfl
theorem sIf_ap (c : SM Bool) (a b : SS) : sIf c a b ρ dc = (c ρ dc).andThen fun p => if p.1 = true then a ρ p.2 else b ρ p.2 := by
  unfold sIf
  rw [thn_ap]
  refine congrArg _ (funext fun p => ?_)
  split <;> rfl
def rtK (ρ : Rho) (dc : Dc) : Option Val → Res (Fl × Rho × Dc)
  | some y => .ok (.rt y, ρ, dc)
  | none => .stuck
theorem rtK_some (y : Val) : rtK ρ dc (some y) = .ok (.rt y, ρ, dc) := rfl
theorem sRet_ap (f : SE) : sRet f ρ dc = (f ρ dc).andThen fun p => rtK ρ p.2 p.1.ice := by
  unfold sRet
  rw [thn_ap]
  refine congrArg _ (funext fun p => ?_)
  cases p.1.ice <;> rfl
def setK (i : Nat) (ρ : Rho) (dc : Dc) : Option Val → Res (Fl × Rho × Dc)
  | some y => .ok (.nx, ρ.set i (some y), dc)
  | none => .stuck
theorem setK_some (y : Val) : setK i ρ dc (some y) = .ok (.nx, ρ.set i (some y), dc) := rfl
theorem sSet_ap (f : SE) : sSet i f ρ dc = (f ρ dc).andThen fun p => setK i ρ p.2 p.1.frz := by
  unfold sSet
  rw [thn_ap]
  refine congrArg _ (funext fun p => ?_)
  cases p.1.frz <;> rfl
def unK (tg : Tg) (ρ : Rho) (dc : Dc) : Val → Res (Fl × Rho × Dc)
  | .p d => match tg d ρ with
    | some ρ' => .ok (.nx, ρ', dc)
    | none => .stuck
  | _ => .stuck
theorem unp_ap (tg : Tg) (f : SE) : sUnp tg f ρ dc = (f ρ dc).andThen fun p => unK tg ρ p.2 p.1 := by
  unfold sUnp
  rw [thn_ap]
  refine congrArg _ (funext fun p => ?_)
  obtain ⟨zv, zd⟩ := p
  cases zv <;> rfl
theorem unK_2 {i j : Nat} {a b : PyData} {ρ : Rho} {dc : Dc} : unK (tgT [i, j]) ρ dc (.p (.tuple [a, b])) = .ok (.nx, (ρ.set i (some (.p a))).set j (some (.p b)), dc) := rfl
theorem unK_3 {i j k : Nat} {a b c : PyData} {ρ : Rho} {dc : Dc} : unK (tgT [i, j, k]) ρ dc (.p (.tuple [a, b, c])) = .ok (.nx, ((ρ.set i (some (.p a))).set j (some (.p b))).set k (some (.p c)), dc) := rfl
theorem sFor_ap (it : SM (List PyData)) (tg : Tg) (body : SS) : sFor it tg body ρ dc = (it ρ dc).andThen fun p => forD tg body p.1 ρ p.2 := by
  unfold sFor
  rw [thn_ap]
def fnK : Res (Fl × Rho × Dc) → Res (Val × Dc)
  | .ok (.rt v, _, dc') => .ok (v, dc')
  | .ok (.nx, _, dc') => .ok (.p .none, dc')
  | .ok (.bk, _, _) => .stuck
  | .exn n => .exn n
  | .stuck => .stuck
theorem fnK_rt (v : Val) : fnK (.ok (.rt v, ρ, dc)) = .ok (v, dc) := rfl
theorem fnK_nx : fnK (.ok (.nx, ρ, dc)) = .ok (.p .none, dc) := rfl
theorem fnK_exn (n : Str) : fnK (.exn n) = .exn n := rfl
theorem fnM_ap (len : Nat) (body : SS) (xs : List Val) : fnM len body xs dc = fnK (body (xs.map some ++ List.replicate (len - xs.length) none) dc) := by
  unfold fnM fnK
  cases body (xs.map some ++ List.replicate (len - xs.length) none) dc with
  | ok p => obtain ⟨fl, ρ', dc'⟩ := p; cases fl <;> rfl
  | exn n => rfl
  | stuck => rfl
end
end DL

set_option maxHeartbeats 4000000
namespace DL
open PySem PySem.Spec PyProof.Rows L2
/-! ### dicts of pairs, plainly -/
abbrev Pr2 := Int × Int
def ksP (kvs : PD) : List Pr2 := kvs.map (·.1)
theorem any_ks (kvs : PD) (k : Pr2) : (kvs.any fun kv => decide (kv.1 = k)) = decide (k ∈ ksP kvs) := by
  rw [Bool.eq_iff_iff, List.any_eq_true, decide_eq_true_eq]
  unfold ksP
  rw [List.mem_map]
  exact ⟨fun ⟨q, h1, h2⟩ => ⟨q, h1, of_decide_eq_true h2⟩, fun ⟨q, h1, h2⟩ => ⟨q, h1, decide_eq_true h2⟩⟩
theorem ks_put (kvs : PD) (k : Pr2) (v : V) : ksP (putP kvs k v) = if k ∈ ksP kvs then ksP kvs else ksP kvs ++ [k] := by
  unfold putP
  rw [any_ks]
  by_cases c : k ∈ ksP kvs
  · rw [decide_eq_true c, if_pos rfl, if_pos c]
    unfold ksP
    rw [List.map_map]
    refine List.map_congr_left fun q _ => ?_
    show (if q.1 = k then (q.1, v) else q).1 = q.1
    split <;> rfl
  · rw [decide_eq_false c, if_neg Bool.false_ne_true, if_neg c]
    unfold ksP
    rw [List.map_append]
    rfl
theorem nodup_put {kvs : PD} {k : Pr2} {v : V} (h : (ksP kvs).Nodup) : (ksP (putP kvs k v)).Nodup := by
  rw [ks_put]
  split
  · exact h
  · rename_i c
    refine List.nodup_append.mpr ⟨h, List.nodup_cons.mpr ⟨by simp, .nil⟩, fun a ha b hb => ?_⟩
    rw [List.mem_singleton.mp hb]
    exact fun e => c (e ▸ ha)
theorem mem_put {kvs : PD} {k j : Pr2} {v : V} : j ∈ ksP (putP kvs k v) ↔ j ∈ ksP kvs ∨ j = k := by
  rw [ks_put]
  split
  · rename_i c
    exact ⟨.inl, fun h => h.elim id fun e => e ▸ c⟩
  · rw [List.mem_append, List.mem_singleton]
theorem val_nil (k : Pr2) : valP [] k = none := rfl
theorem val_cons (q : Pr2 × V) (kvs : PD) (k : Pr2) : valP (q :: kvs) k = if q.1 = k then some q.2 else valP kvs k := by
  unfold valP
  rw [List.find?_cons]
  by_cases c : q.1 = k
  · rw [decide_eq_true c, if_pos c]; rfl
  · rw [decide_eq_false c, if_neg c]
theorem val_none {kvs : PD} {k : Pr2} : valP kvs k = none ↔ k ∉ ksP kvs := by
  induction kvs with
  | nil => exact ⟨fun _ h => (by cases h), fun _ => rfl⟩
  | cons q r ih =>
    rw [val_cons]
    unfold ksP
    rw [List.map_cons, List.mem_cons]
    split
    · rename_i c
      exact ⟨fun h => (by cases h), fun h => absurd (Or.inl c.symm) h⟩
    · rename_i c
      rw [ih]
      exact ⟨fun h z => z.elim (fun e => c e.symm) h, fun h z => h (.inr z)⟩
theorem val_put (kvs : PD) (k j : Pr2) (v : V) : valP (putP kvs k v) j = if j = k then some v else valP kvs j := by
  unfold putP
  rw [any_ks]
  by_cases c : k ∈ ksP kvs
  · rw [decide_eq_true c, if_pos rfl]
    induction kvs with
    | nil => cases c
    | cons q r ih =>
      rw [List.map_cons, val_cons, val_cons]
      by_cases e : q.1 = k
      · rw [if_pos e]
        show (if q.1 = j then some v else _) = _
        by_cases e2 : q.1 = j
        · rw [if_pos e2, if_pos (e2.symm.trans e)]
        · rw [if_neg e2]
          by_cases e3 : j = k
          · exact absurd (e.trans e3.symm) e2
          · rw [if_neg e3, if_neg e2]
            have key : ∀ r : PD, valP (r.map fun kv => if kv.1 = k then (kv.1, v) else kv) j = valP r j := by
              intro r
              induction r with
              | nil => rfl
              | cons p r ih2 =>
                rw [List.map_cons, val_cons, val_cons, ih2]
                by_cases e4 : p.1 = k
                · rw [if_pos e4]
                  show (if p.1 = j then some v else _) = _
                  rw [if_neg (fun z => e3 (z.symm.trans e4)), if_neg (fun z => e3 (z.symm.trans e4))]
                · rw [if_neg e4]
            exact key r
      · rw [if_neg e]
        by_cases e2 : q.1 = j
        · rw [if_pos e2, if_pos e2, if_neg (fun z => e (e2.trans z))]
        · rw [if_neg e2, if_neg e2]
          have c' : k ∈ ksP r := by
            rcases List.mem_cons.mp c with z | z
            · exact absurd z.symm e
            · exact z
          exact ih c'
  · rw [decide_eq_false c, if_neg Bool.false_ne_true]
    have key : ∀ r : PD, k ∉ ksP r → valP (r ++ [(k, v)]) j = if j = k then some v else valP r j := by
      intro r
      induction r with
      | nil =>
        intro _
        rw [List.nil_append, val_cons, val_nil]
        by_cases e : k = j
        · rw [if_pos e, if_pos e.symm]
        · rw [if_neg e, if_neg (Ne.symm e)]
      | cons p r ih =>
        intro h
        rw [List.cons_append, val_cons, val_cons, ih (fun z => h (List.mem_cons_of_mem _ z))]
        by_cases e : p.1 = j
        · rw [if_pos e, if_pos e, if_neg (fun z => h (by rw [← z, ← e]; exact List.mem_cons_self))]
        · rw [if_neg e, if_neg e]
    exact key kvs c
/-! ### a fold of puts: True at each key -/
def addT (a : PD) (q : Pr2) : PD := putP a q (.bl true)
theorem addT_facts : ∀ (l : List Pr2) (a : PD), (ksP a).Nodup → (∀ kv ∈ a, kv.2 = V.bl true) → (ksP (l.foldl addT a)).Nodup ∧ (∀ p, p ∈ ksP (l.foldl addT a) ↔ p ∈ ksP a ∨ p ∈ l) ∧ ∀ kv ∈ l.foldl addT a, kv.2 = V.bl true
  | [], a, h, h2 => ⟨h, fun p => ⟨.inl, fun z => z.elim id fun z => by cases z⟩, h2⟩
  | q :: l, a, h, h2 => by
    have h2' : ∀ kv ∈ addT a q, kv.2 = V.bl true := fun kv hkv => by
      unfold addT putP at hkv
      split at hkv
      · obtain ⟨p, hp, e⟩ := List.mem_map.mp hkv
        split at e
        · rw [← e]
        · rw [← e]; exact h2 p hp
      · rcases List.mem_append.mp hkv with z | z
        · exact h2 kv z
        · rw [List.mem_singleton.mp z]
    obtain ⟨h3, h4, h5⟩ := addT_facts l (addT a q) (nodup_put h) h2'
    refine ⟨h3, fun p => ?_, h5⟩
    rw [List.foldl_cons, h4, List.mem_cons]
    unfold addT
    rw [mem_put]
    constructor
    · rintro ((z | z) | z)
      · exact .inl z
      · exact .inr (.inl z)
      · exact .inr (.inr z)
    · rintro (z | z | z)
      · exact .inl (.inl z)
      · exact .inl (.inr z)
      · exact .inr z
theorem allTr_of {kvs : PD} (h : ∀ kv ∈ kvs, kv.2 = V.bl true) : allTr kvs = true := by
  unfold allTr
  rw [List.all_eq_true]
  intro kv hkv
  rw [h kv hkv]
/-! ### a fold of puts: counting -/
def cntV (a : PD) (q : Pr2) : Int := match valP a q with
  | some (.int i) => i
  | _ => 0
def addC (a : PD) (q : Pr2) : PD := putP a q (.int (cntV a q + 1))
theorem addC_facts : ∀ (l : List Pr2) (a : PD) (c : Pr2 → Nat), (ksP a).Nodup → (∀ p, valP a p = if c p = 0 then none else some (.int (c p : Nat))) →
    (ksP (l.foldl addC a)).Nodup ∧ ∀ p, valP (l.foldl addC a) p = if c p + l.count p = 0 then none else some (.int ((c p + l.count p : Nat) : Int))
  | [], a, c, h, h2 => ⟨h, fun p => by rw [List.count_nil, Nat.add_zero]; exact h2 p⟩
  | q :: l, a, c, h, h2 => by
    have ec : cntV a q = (c q : Nat) := by
      unfold cntV
      rw [h2 q]
      by_cases z : c q = 0
      · rw [if_pos z, z]; rfl
      · rw [if_neg z]
    obtain ⟨h3, h4⟩ := addC_facts l (addC a q) (fun p => if p = q then c q + 1 else c p) (nodup_put h) (fun p => by
      unfold addC
      rw [val_put, ec]
      by_cases z : p = q
      · rw [if_pos z, if_neg (by rw [if_pos z]; omega), if_pos z]
        rfl
      · rw [if_neg z, h2 p]
        simp only [if_neg z])
    refine ⟨h3, fun p => ?_⟩
    rw [List.foldl_cons, h4 p]
    have e : (if p = q then c q + 1 else c p) + l.count p = c p + (q :: l).count p := by
      rw [List.count_cons]
      by_cases z : p = q
      · rw [if_pos z, z]
        simp only [beq_self_eq_true, if_true]
        omega
      · rw [if_neg z, if_neg (by rw [beq_iff_eq]; exact fun e => z e.symm)]
        omega
    rw [e]
/-! ### lists of pairs in order -/
theorem sort_unique {l : List Pr2} {m : List Pr2} (hl : l.Nodup) (hm : m.Pairwise fun p q => pLe p q = true ∧ p ≠ q) (h : ∀ p, p ∈ l ↔ p ∈ m) : l.mergeSort pLe = m := by
  have nm : m.Nodup := hm.imp fun h => h.2
  have e1 := pSort_perm ((List.perm_ext_iff_of_nodup hl nm).mpr h)
  rw [e1]
  exact List.mergeSort_of_pairwise (hm.imp fun h => h.1)
theorem perm_of_mem {l m : List Pr2} (hl : l.Nodup) (hm : m.Nodup) (h : ∀ p, p ∈ l ↔ p ∈ m) : l.Perm m := (List.perm_ext_iff_of_nodup hl hm).mpr h
/-! ### loops over mapped lists -/
theorem forD_pre {tg : Tg} {body : SS} {β : Type} {g : β → PyData} {l : List β} {dc : Dc} {I : List β → Rho → Prop} (step : ∀ d x r, l = d ++ x :: r → ∀ ρ, I d ρ → ∃ ρ1 ρ2, tg (g x) ρ = some ρ1 ∧ body ρ1 dc = .ok (.nx, ρ2, dc) ∧ I (d ++ [x]) ρ2) :
    ∀ ρ, I [] ρ → ∃ ρ', forD tg body (l.map g) ρ dc = .ok (.nx, ρ', dc) ∧ I l ρ' := by
  have key : ∀ (r d : List β), l = d ++ r → ∀ ρ, I d ρ → ∃ ρ', forD tg body (r.map g) ρ dc = .ok (.nx, ρ', dc) ∧ I l ρ' := by
    intro r
    induction r with
    | nil =>
      intro d e ρ h
      rw [List.append_nil] at e
      exact ⟨ρ, rfl, e ▸ h⟩
    | cons x r ih =>
      intro d e ρ h
      obtain ⟨ρ1, ρ2, h1, h2, h3⟩ := step d x r e ρ h
      obtain ⟨ρ', h4, h5⟩ := ih (d ++ [x]) (by rw [e, List.append_assoc]; rfl) ρ2 h3
      refine ⟨ρ', ?_, h5⟩
      rw [List.map_cons]
      unfold forD
      rw [h1]
      simp only [h2]
      exact h4
  exact fun ρ h => key l [] rfl ρ h
/-- .. with a way out: O tells the answer -/
theorem forD_out {tg : Tg} {body : SS} {β : Type} {g : β → PyData} {l : List β} {dc : Dc} {I : List β → Rho → Prop} {O : Val → Prop} (step : ∀ d x r, l = d ++ x :: r → ∀ ρ, I d ρ → ∃ ρ1, tg (g x) ρ = some ρ1 ∧ ((∃ ρ2, body ρ1 dc = .ok (.nx, ρ2, dc) ∧ I (d ++ [x]) ρ2) ∨ ∃ ρ2 v, body ρ1 dc = .ok (.rt v, ρ2, dc) ∧ O v)) :
    ∀ ρ, I [] ρ → (∃ ρ', forD tg body (l.map g) ρ dc = .ok (.nx, ρ', dc) ∧ I l ρ') ∨ ∃ ρ' v, forD tg body (l.map g) ρ dc = .ok (.rt v, ρ', dc) ∧ O v := by
  have key : ∀ (r d : List β), l = d ++ r → ∀ ρ, I d ρ → (∃ ρ', forD tg body (r.map g) ρ dc = .ok (.nx, ρ', dc) ∧ I l ρ') ∨ ∃ ρ' v, forD tg body (r.map g) ρ dc = .ok (.rt v, ρ', dc) ∧ O v := by
    intro r
    induction r with
    | nil =>
      intro d e ρ h
      rw [List.append_nil] at e
      exact .inl ⟨ρ, rfl, e ▸ h⟩
    | cons x r ih =>
      intro d e ρ h
      rw [List.map_cons]
      unfold forD
      obtain ⟨ρ1, h1, ⟨ρ2, h2, h3⟩ | ⟨ρ2, v, h2, h3⟩⟩ := step d x r e ρ h
      · rw [h1]
        simp only [h2]
        exact ih (d ++ [x]) (by rw [e, List.append_assoc]; rfl) ρ2 h3
      · rw [h1]
        simp only [h2]
        exact .inr ⟨ρ2, v, rfl, h3⟩
  exact fun ρ h => key l [] rfl ρ h
theorem compL {it : SM (List PyData)} {tg : Tg} {vs : List Nat} {test : SM Bool} {elt : SE} {β : Type} {g : β → PyData} {l : List β} {t : β → Bool} {f : β → PyData} {ρ : Rho} {dc : Dc} (hi : it ρ dc = .ok (l.map g, dc)) (hl : l.length ≤ 100000)
    (h : ∀ x ∈ l, ∃ ρ1, tg (g x) (wipeR ρ vs) = some ρ1 ∧ test ρ1 dc = .ok (t x, dc) ∧ (t x = true → elt ρ1 dc = .ok (.p (f x), dc))) : eComp it tg vs test elt ρ dc = .ok (.p (.list ((l.filter t).map f)), dc) := by
  rw [eComp_ap, hi, and_ok]
  show (if (l.map g).length ≤ 100000 then compD tg test elt (l.map g) [] (wipeR ρ vs) dc else .stuck) = _
  rw [List.length_map, if_pos hl]
  have key : ∀ (r : List β) (acc : List PyData), (∀ x ∈ r, x ∈ l) → compD tg test elt (r.map g) acc (wipeR ρ vs) dc = .ok (.p (.list (acc ++ (r.filter t).map f)), dc) := by
    intro r
    induction r with
    | nil => intro acc _; unfold compD; rw [List.map_nil, List.filter_nil, List.map_nil, List.append_nil]
    | cons x r ih =>
      intro acc hr
      obtain ⟨ρ1, h1, h2, h3⟩ := h x (hr x List.mem_cons_self)
      rw [List.map_cons]
      unfold compD
      simp only [h1, h2]
      cases q : t x with
      | true =>
        simp only [h3 q]
        rw [ih _ fun y hy => hr y (List.mem_cons_of_mem _ hy), List.filter_cons_of_pos q, List.map_cons, List.append_assoc]
        rfl
      | false =>
        simp only
        rw [ih _ fun y hy => hr y (List.mem_cons_of_mem _ hy), List.filter_cons_of_neg (by rw [q]; simp)]
  rw [key l [] fun _ h => h, List.nil_append]
/-- .. without a test -/
theorem compM {it : SM (List PyData)} {tg : Tg} {vs : List Nat} {elt : SE} {β : Type} {g : β → PyData} {l : List β} {f : β → PyData} {ρ : Rho} {dc : Dc} (hi : it ρ dc = .ok (l.map g, dc)) (hl : l.length ≤ 100000)
    (h : ∀ x ∈ l, ∃ ρ1, tg (g x) (wipeR ρ vs) = some ρ1 ∧ elt ρ1 dc = .ok (.p (f x), dc)) : eComp it tg vs (SM.ret true) elt ρ dc = .ok (.p (.list (l.map f)), dc) := by
  rw [compL (t := fun _ => true) (f := f) hi hl fun x hx => let ⟨ρ1, h1, h2⟩ := h x hx; ⟨ρ1, h1, rfl, fun _ => h2⟩]
  rw [List.filter_eq_self.mpr fun _ _ => rfl]
theorem it1_n {a : SE} {ρ : Rho} {dc : Dc} {n : Nat} (ha : a ρ dc = .ok (.p (.int n), dc)) (hn : n ≤ 100000) : it1 a ρ dc = .ok ((List.range n).map (fun i : Nat => PyData.int i), dc) := by
  unfold it1
  rw [bind_ap, ha, and_ok]
  show (if -100000 ≤ (n : Int) ∧ (n : Int) ≤ 100000 then SM.ret (rg2D 0 n) else fun _ _ => .stuck) ρ dc = _
  rw [if_pos (by omega)]
  have e : rg2D 0 n = (List.range n).map (fun i : Nat => PyData.int i) := by
    unfold rg2D
    have e1 : ((n : Int) - 0).toNat = n := by omega
    rw [e1]
    refine List.map_congr_left fun i _ => ?_
    rw [Int.zero_add]
  rw [e]
  rfl
/-! ### data that may be compared -/
def Sh (k : Nat) (d : PyData) : Prop := d.canLay0 = true ∧ d.depth ≤ k
theorem lay_all : ∀ {ds : List PyData}, (∀ d ∈ ds, d.canLay0 = true) → PyData.canLayAll0 ds = true
  | [], _ => rfl
  | d :: ds, h => by
    show (d.canLay0 && PyData.canLayAll0 ds) = true
    rw [h d List.mem_cons_self, lay_all fun e he => h e (List.mem_cons_of_mem _ he)]
    rfl
theorem dep_all {k : Nat} : ∀ {ds : List PyData}, (∀ d ∈ ds, d.depth ≤ k) → PyData.depthAll ds ≤ k
  | [], _ => Nat.zero_le _
  | d :: ds, h => Nat.max_le.mpr ⟨h d List.mem_cons_self, dep_all fun e he => h e (List.mem_cons_of_mem _ he)⟩
theorem Sh.int (k : Nat) (i : Int) : Sh k (.int i) := ⟨rfl, Nat.zero_le _⟩
theorem Sh.bool (k : Nat) (i : Bool) : Sh k (.bool i) := ⟨rfl, Nat.zero_le _⟩
theorem Sh.none (k : Nat) : Sh k .none := ⟨rfl, Nat.zero_le _⟩
theorem Sh.tup {k : Nat} {ds : List PyData} (h : ∀ d ∈ ds, Sh k d) : Sh (k + 1) (.tuple ds) := ⟨lay_all fun d hd => (h d hd).1, Nat.succ_le_succ (dep_all fun d hd => (h d hd).2)⟩
theorem Sh.lst {k : Nat} {ds : List PyData} (h : ∀ d ∈ ds, Sh k d) : Sh (k + 1) (.list ds) := ⟨lay_all fun d hd => (h d hd).1, Nat.succ_le_succ (dep_all fun d hd => (h d hd).2)⟩
theorem Sh.ok {k : Nat} {d : PyData} (h : Sh k d) (hk : k ≤ 64) : SeqAt.shaped d = true := by
  unfold SeqAt.shaped
  rw [h.1, decide_eq_true (Nat.le_trans h.2 hk)]
  rfl
theorem Sh.pD (p : Int × Int) : Sh 1 (DL.pD p) := .tup fun d hd => by
  rcases List.mem_cons.mp hd with rfl | hd
  · exact .int 0 _
  · rcases List.mem_cons.mp hd with rfl | hd
    · exact .int 0 _
    · cases hd
theorem Sh.map {α : Type} {f : α → PyData} {k : Nat} {l : List α} (h : ∀ x, Sh k (f x)) : ∀ d ∈ l.map f, Sh k d := fun d hd => by
  obtain ⟨x, _, rfl⟩ := List.mem_map.mp hd
  exact h x
theorem vNe_refl {k : Nat} {d : PyData} (h : Sh k d) (hk : k ≤ 64) : vNe (.p d) (.p d) = some (.p (.bool false)) := by
  show (if SeqAt.shaped d = true ∧ SeqAt.shaped d = true then some (Val.p (.bool (!PyData.eqv d d))) else none) = _
  rw [if_pos ⟨h.ok hk, h.ok hk⟩, SeqAt.eqv_refl d h.1]
  rfl
theorem vEq_refl {k : Nat} {d : PyData} (h : Sh k d) (hk : k ≤ 64) : vEq (.p d) (.p d) = some (.p (.bool true)) := by
  show (if SeqAt.shaped d = true ∧ SeqAt.shaped d = true then some (Val.p (.bool (PyData.eqv d d))) else none) = _
  rw [if_pos ⟨h.ok hk, h.ok hk⟩, SeqAt.eqv_refl d h.1]
theorem vNe_sh {k : Nat} {d e : PyData} (h : Sh k d) (h2 : Sh k e) (hk : k ≤ 64) : vNe (.p d) (.p e) = some (.p (.bool (!PyData.eqv d e))) := if_pos ⟨h.ok hk, h2.ok hk⟩
theorem vEq_sh {k : Nat} {d e : PyData} (h : Sh k d) (h2 : Sh k e) (hk : k ≤ 64) : vEq (.p d) (.p e) = some (.p (.bool (PyData.eqv d e))) := if_pos ⟨h.ok hk, h2.ok hk⟩
/-- lists of data told apart by f -/
theorem eqvAll_map {α : Type} [DecidableEq α] {f : α → PyData} (h : ∀ x y, PyData.eqv (f x) (f y) = decide (x = y)) : ∀ l m : List α, PyData.eqvAll (l.map f) (m.map f) = decide (l = m)
  | [], [] => rfl
  | [], _ :: _ => rfl
  | _ :: _, [] => rfl
  | x :: l, y :: m => by
    show (PyData.eqv (f x) (f y) && PyData.eqvAll (l.map f) (m.map f)) = _
    rw [h, eqvAll_map h l m, Bool.eq_iff_iff, Bool.and_eq_true, decide_eq_true_eq, decide_eq_true_eq, decide_eq_true_eq, List.cons.injEq]
theorem eqv_pD (p q : Int × Int) : PyData.eqv (pD p) (pD q) = decide (p = q) := by
  show ((p.1 == q.1) && ((p.2 == q.2) && true)) = _
  rw [Bool.and_true, Bool.eq_iff_iff, Bool.and_eq_true, beq_iff_eq, beq_iff_eq, decide_eq_true_eq]
  exact ⟨fun ⟨a, b⟩ => Prod.ext a b, fun e => e ▸ ⟨rfl, rfl⟩⟩
theorem eqv_list {α : Type} [DecidableEq α] {f : α → PyData} (h : ∀ x y, PyData.eqv (f x) (f y) = decide (x = y)) (l m : List α) : PyData.eqv (.list (l.map f)) (.list (m.map f)) = decide (l = m) := eqvAll_map h l m
theorem eqv_tuple {α : Type} [DecidableEq α] {f : α → PyData} (h : ∀ x y, PyData.eqv (f x) (f y) = decide (x = y)) (l m : List α) : PyData.eqv (.tuple (l.map f)) (.tuple (m.map f)) = decide (l = m) := eqvAll_map h l m
theorem eqv_nat (x y : Nat) : PyData.eqv (.int (x : Int)) (.int (y : Int)) = decide (x = y) := by
  show ((x : Int) == (y : Int)) = _
  rw [Bool.eq_iff_iff, beq_iff_eq, decide_eq_true_eq]
  omega
theorem notIn_ok {α : Type} [DecidableEq α] {f : α → PyData} {k : Nat} (h : ∀ x y, PyData.eqv (f x) (f y) = decide (x = y)) (hs : ∀ x, Sh k (f x)) (hk : k + 1 ≤ 64) (q : α) (l : List α) : vNotInD (.p (f q)) (.p (.list (l.map f))) = some (.p (.bool (!decide (q ∈ l)))) := by
  show (if SeqAt.shaped (f q) = true ∧ SeqAt.shaped (.list (l.map f)) = true then some (Val.p (.bool (!(l.map f).any fun z => PyData.eqv z (f q)))) else none) = _
  rw [if_pos ⟨(hs q).ok (by omega), (Sh.lst (Sh.map hs)).ok hk⟩]
  have e : ((l.map f).any fun z => PyData.eqv z (f q)) = decide (q ∈ l) := by
    rw [List.any_map, Bool.eq_iff_iff, List.any_eq_true, decide_eq_true_eq]
    constructor
    · rintro ⟨x, hx, hz⟩
      have : PyData.eqv (f x) (f q) = true := hz
      rw [h, decide_eq_true_eq] at this
      exact this ▸ hx
    · intro hq
      refine ⟨q, hq, ?_⟩
      show PyData.eqv (f q) (f q) = true
      rw [h, decide_eq_true rfl]
  rw [e]
theorem bools_map : ∀ l : List Bool, boolsOf (l.map .bool) = some l
  | [] => rfl
  | a :: l => by
    show (boolsOf (l.map .bool)).map (a :: ·) = _
    rw [bools_map l]
    rfl
theorem all_l (l : List Bool) : vAllL [.p (.list (l.map .bool))] = some (.p (.bool (l.all id))) := by
  show (boolsOf (l.map .bool)).map _ = _
  rw [bools_map l]
  rfl
theorem any_l (l : List Bool) : vAnyL [.p (.list (l.map .bool))] = some (.p (.bool (l.any id))) := by
  show (boolsOf (l.map .bool)).map _ = _
  rw [bools_map l]
  rfl
end DL

set_option maxHeartbeats 4000000
namespace DL
open PySem PySem.Spec PyProof.Rows L2
/-! ### one statement behind another, without a look at the rest -/
section
variable {ρ ρ' : Rho} {dc dc' : Dc} {r : Res (Fl × Rho × Dc)}
theorem seq_go {a b : SS} (h : a ρ dc = .ok (.nx, ρ', dc')) (h2 : b ρ' dc' = r) : sSeq a b ρ dc = r := by
  rw [seq_ap, h]
  exact h2
theorem set_go {i : Nat} {f : SE} {d : PyData} (h : f ρ dc = .ok (.p d, dc')) : sSet i f ρ dc = .ok (.nx, ρ.set i (some (.p d)), dc') := by
  rw [sSet_ap, h]
  rfl
theorem if_no {c : SM Bool} {a : SS} (h : c ρ dc = .ok (false, dc')) : sIf c a sNx ρ dc = .ok (.nx, ρ, dc') := by
  rw [sIf_ap, h]
  rfl
theorem unp_go {is : List Nat} {f : SE} {ds : List PyData} (h : f ρ dc = .ok (.p (.tuple ds), dc')) (h2 : setAll is ds ρ = some ρ') : sUnp (tgT is) f ρ dc = .ok (.nx, ρ', dc') := by
  unfold sUnp
  rw [thn_ap, h, and_ok]
  show (match setAll is ds ρ with | some ρ' => Res.ok (Fl.nx, ρ', dc') | none => .stuck) = _
  rw [h2]
theorem ret_go {f : SE} {d : PyData} (h : f ρ dc = .ok (.p d, dc')) : sRet f ρ dc = .ok (.rt (.p d), ρ, dc') := by
  rw [sRet_ap, h]
  rfl
theorem expr_go {f : SE} {v : Val} (h : f ρ dc = .ok (v, dc')) : sExpr f ρ dc = .ok (.nx, ρ, dc') := by
  unfold sExpr
  rw [thn_ap, h]
  rfl
theorem fn_go {len : Nat} {body : SS} {xs : List Val} {v : Val} (h : body (xs.map some ++ List.replicate (len - xs.length) none) dc = .ok (.rt v, ρ', dc')) : fnM len body xs dc = .ok (v, dc') := by
  rw [fnM_ap, h]
  rfl
theorem ap_exn {n : Nat} {fm : FM} {a : SM (List Val)} {s : Str} {xs : List Val} (h : a ρ dc = .ok (xs, dc')) (h2 : argB n fm dc' xs = .exn s) : eApp n fm a ρ dc = .exn s := by
  rw [eApp_ap, h]
  exact h2
end
end DL

set_option maxHeartbeats 4000000
namespace K02
open PySem PySem.Spec PyProof.Rows L2 DL
/-! ### small values -/
theorem vNe_int (a b : Int) : vNe (.p (.int a)) (.p (.int b)) = some (.p (.bool (!(a == b)))) := rfl
theorem vEq_int (a b : Int) : vEq (.p (.int a)) (.p (.int b)) = some (.p (.bool (a == b))) := rfl
theorem ix_t (ds : List PyData) (i : Int) : vIx (.p (.tuple ds)) (.p (.int i)) = (atI ds i).map .p := rfl
theorem ix_l (ds : List PyData) (i : Int) : vIx (.p (.list ds)) (.p (.int i)) = (atI ds i).map .p := rfl
theorem at_nat {α : Type} {xs : List α} {i : Nat} (h : i < xs.length) : atI xs (i : Int) = some xs[i] := by
  unfold atI ixN
  rw [if_pos (by omega), if_pos (by omega)]
  simp
theorem at_0 {α : Type} (a : α) (l : List α) : atI (a :: l) 0 = some a := by
  have := at_nat (xs := a :: l) (i := 0) (by simp)
  simpa using this
theorem at_1 {α : Type} (a b : α) (l : List α) : atI (a :: b :: l) 1 = some b := by
  have := at_nat (xs := a :: b :: l) (i := 1) (by simp)
  simpa using this
theorem at_2 {α : Type} (a b c : α) (l : List α) : atI (a :: b :: c :: l) 2 = some c := by
  have := at_nat (xs := a :: b :: c :: l) (i := 2) (by simp)
  simpa using this
theorem len_t (ds : List PyData) : vLen [.p (.tuple ds)] = some (.p (.int ds.length)) := rfl
theorem len_l (ds : List PyData) : vLen [.p (.list ds)] = some (.p (.int ds.length)) := rfl
theorem len_fd (kvs : PD) : vLen [.fd kvs] = some (.p (.int kvs.length)) := rfl
theorem tup_l (ds : List PyData) : vTuple1 [.p (.list ds)] = some (.p (.tuple ds)) := rfl
theorem tup_ol (ds : List PyData) : vTuple1 [.ol ds] = some (.p (.tuple ds)) := rfl
theorem sq_t (ds : List PyData) : sqOf (.p (.tuple ds)) = some ds := rfl
theorem sq_l (ds : List PyData) : sqOf (.p (.list ds)) = some ds := rfl
theorem sq_ol (ds : List PyData) : sqOf (.ol ds) = some ds := rfl
theorem cut1 (a : PyData) (ds : List PyData) : vCut (some 1) none (.p (.tuple (a :: ds))) = some (.p (.tuple ds)) := by
  show some (Val.p (.tuple (DL.cutD (a :: ds) (some 1) none))) = _
  have e : DL.cutD (a :: ds) (some 1) none = ds := by
    unfold DL.cutD HT.sIx
    simp
  rw [e]
theorem isi_t (ds : List PyData) : vIsi "tuple" (.p (.tuple ds)) = some (.p (.bool true)) := rfl
def isI : PyData → Bool
  | .int _ => true
  | _ => false
theorem is_integer_eq (d : PyData) (dc : Dc) : fm_is_integer [.p d] dc = .ok (.p (.bool (isI d)), dc) := by cases d <;> rfl
theorem isI_int (i : Int) : isI (.int i) = true := rfl
/-! ### organs -/
abbrev rankD (r : List Int) : PyData := .tuple (r.map .int)
abbrev stopD (s : List (Int × Int)) : PyData := .tuple (s.map pD)
abbrev ogD (n : Int) (R : List (List Int)) (S : List (List (Int × Int))) : PyData := .tuple [.int n, .tuple (R.map rankD), .tuple (S.map stopD)]
def SrtP (s : List (Int × Int)) : Prop := s.Pairwise fun p q => p.1 < q.1 ∨ (p.1 = q.1 ∧ p.2 < q.2)
structure OkO (n : Int) (R : List (List Int)) (S : List (List (Int × Int))) : Prop where
  n1 : 1 ≤ n
  n2 : n ≤ 12
  r1 : 1 ≤ R.length
  r2 : R.length ≤ 4
  r3 : ∀ r ∈ R, 1 ≤ r.length ∧ r.length ≤ 20 ∧ ∀ w ∈ r, 0 ≤ w ∧ w ≤ 100
  s1 : S.length ≤ 6
  s2 : ∀ s ∈ S, 1 ≤ s.length ∧ s.length ≤ 3 ∧ SrtP s ∧ ∀ p ∈ s, 0 ≤ p.1 ∧ p.1 < R.length ∧ -20 ≤ p.2 ∧ p.2 ≤ 20
theorem allD_cons (tf : Tg) (fe : SE) (x : PyData) (xs : List PyData) (ρ ρ1 : Rho) (dc : Dc) (h : tf x ρ = some ρ1) (h2 : fe ρ1 dc = .ok (.p (.bool true), dc)) : allD tf fe (x :: xs) ρ dc = allD tf fe xs ρ dc := by
  conv => lhs; unfold allD
  simp only [h, h2]
/-! ### is_stop, is_organ, is_lot -/
theorem ltT (p q : Int × Int) : vLt (.p (pD p)) (.p (pD q)) = some (.p (.bool (HT.lexLt [p.1, p.2] [q.1, q.2]))) := rfl
theorem lex2 {p q : Int × Int} (h : p.1 < q.1 ∨ (p.1 = q.1 ∧ p.2 < q.2)) : HT.lexLt [p.1, p.2] [q.1, q.2] = true := by
  rw [HT.lexLt_cons]
  by_cases c : p.1 = q.1
  · rw [if_pos c, HT.lexLt_cons, if_neg (by omega)]
    exact decide_eq_true (by omega)
  · rw [if_neg c]
    exact decide_eq_true (by omega)
/-- the ints from 1 to n - 1 -/
def r1L (n : Nat) : List PyData := (List.range (n - 1)).map fun i => .int ((i + 1 : Nat) : Int)
theorem it2_1 (a b : SE) (ρ : Rho) (dc : Dc) {n : Nat} (ha : a ρ dc = .ok (.p (.int 1), dc)) (hb : b ρ dc = .ok (.p (.int n), dc)) (hn : n ≤ 1000) : it2 a b ρ dc = .ok (r1L n, dc) := by
  unfold it2
  rw [bind_ap, ha, and_ok, bind_ap, hb, and_ok]
  show (if -100000 ≤ (1 : Int) ∧ (1 : Int) ≤ 100000 ∧ -100000 ≤ (n : Int) ∧ (n : Int) ≤ 100000 then SM.ret (rg2D 1 n) else fun _ _ => .stuck) ρ dc = _
  rw [if_pos (by omega)]
  have e : rg2D 1 n = r1L n := by
    unfold rg2D r1L
    have e1 : ((n : Int) - 1).toNat = n - 1 := by omega
    rw [e1]
    refine List.map_congr_left fun i _ => ?_
    congr 1
    omega
  rw [e]
  rfl
/-! ### lots, refusals -/
abbrev natD (l : List Nat) : List PyData := l.map fun i : Nat => .int (i : Int)
structure OkL (m : Nat) (l : List Nat) : Prop where
  lt : ∀ i ∈ l, i < m
  up : l.Pairwise (· < ·)
theorem OkL.len {m : Nat} {l : List Nat} (h : OkL m l) : l.length ≤ m := by
  have := nat_nodup_len l (List.range m) (h.up.imp fun h => Nat.ne_of_lt h) fun x hx => List.mem_range.mpr (h.lt x hx)
  rwa [List.length_range] at this
theorem bad_ap {n : Str} {i : Nat} {ρ : Rho} (dc : Dc) (hn : n.length ≤ 1000) (h : ρ[i]? = some (some (.p (.str n)))) : sBad (aCons (eVar i) aNil) ρ dc = .exn n := by
  unfold sBad
  rw [thn_ap, aCons_ap, eVar_ap, h]
  show (if n.length ≤ 1000 then Res.exn n else Res.stuck) = _
  rw [if_pos hn]
theorem expr_ap (f : SE) (ρ : Rho) (dc : Dc) : sExpr f ρ dc = (f ρ dc).andThen fun p => .ok (.nx, ρ, p.2) := by
  unfold sExpr
  rw [thn_ap]
section
variable {n m : Nat} {R : List (List Int)} {S : List (List (Int × Int))} {D Ks : List Nat} {dc : Dc}
end
/-! ### the pipes -/
theorem at_int {α : Type} {xs : List α} {i : Int} (h0 : 0 ≤ i) (h1 : i < xs.length) : atI xs i = some (xs[i.toNat]'(by omega)) := by
  have := at_nat (xs := xs) (i := i.toNat) (by omega)
  rwa [Int.toNat_of_nonneg h0] at this
def lenR (R : List (List Int)) (r : Int) : Int := ((R.getD r.toNat []).length : Nat)
def hit (R : List (List Int)) (q : Pr2) : Bool := decide (0 ≤ q.2) && decide (q.2 < lenR R q.1)
def every (R : List (List Int)) : List Pr2 := (List.range R.length).flatMap fun r : Nat => (List.range (R.getD r []).length).map fun p : Nat => ((r : Int), (p : Int))
theorem mem_every {R : List (List Int)} {q : Pr2} : q ∈ every R ↔ 0 ≤ q.1 ∧ q.1 < (R.length : Int) ∧ 0 ≤ q.2 ∧ q.2 < lenR R q.1 := by
  unfold every lenR
  rw [List.mem_flatMap]
  constructor
  · rintro ⟨r, hr, h⟩
    obtain ⟨p, hp, rfl⟩ := List.mem_map.mp h
    have h1 := List.mem_range.mp hr
    have h2 := List.mem_range.mp hp
    refine ⟨by show (0 : Int) ≤ (r : Int); omega, by show (r : Int) < _; omega, by show (0 : Int) ≤ (p : Int); omega, ?_⟩
    show (p : Int) < ((R.getD (r : Int).toNat []).length : Nat)
    rw [Int.toNat_natCast]
    omega
  · rintro ⟨h1, h2, h3, h4⟩
    refine ⟨q.1.toNat, List.mem_range.mpr (by omega), List.mem_map.mpr ⟨q.2.toNat, List.mem_range.mpr (by omega), ?_⟩⟩
    exact Prod.ext (Int.toNat_of_nonneg h1) (Int.toNat_of_nonneg h3)
theorem nodup_len {α : Type} [DecidableEq α] : ∀ (l D : List α), l.Nodup → (∀ x ∈ l, x ∈ D) → l.length ≤ D.length
  | [], _, _, _ => Nat.zero_le _
  | x :: l, D, hn, hs => by
    obtain ⟨h1, h2⟩ := List.nodup_cons.mp hn
    have hx : x ∈ D := hs x List.mem_cons_self
    have ih := nodup_len l (D.erase x) h2 fun y hy => (List.mem_erase_of_ne (fun e : y = x => h1 (e ▸ hy))).2 (hs y (List.mem_cons_of_mem _ hy))
    have e := List.length_erase_of_mem hx
    have hp : 0 < D.length := List.length_pos_of_mem hx
    rw [List.length_cons]
    omega
theorem flat_len {α β : Type} {f : α → List β} {c : Nat} : ∀ l : List α, (∀ x ∈ l, (f x).length ≤ c) → (l.flatMap f).length ≤ c * l.length
  | [], _ => Nat.le_refl _
  | x :: l, h => by
    rw [List.flatMap_cons, List.length_append, List.length_cons, Nat.mul_add]
    have h1 := h x List.mem_cons_self
    have h2 := flat_len l fun y hy => h y (List.mem_cons_of_mem _ hy)
    omega
section
variable {n : Int} {R : List (List Int)} {S : List (List (Int × Int))} {D Ks : List Nat} {dc : Dc}
theorem every_len (O : OkO n R S) : (every R).length ≤ 80 := by
  have h1 := O.r2
  have := flat_len (c := 20) (f := fun r : Nat => (List.range (R.getD r []).length).map fun p : Nat => ((r : Int), (p : Int))) (List.range R.length) fun r hr => by
    rw [List.length_map, List.length_range]
    have hr := List.mem_range.mp hr
    rw [List.getD_eq_getElem?_getD, List.getElem?_eq_getElem hr]
    exact (O.r3 _ (List.getElem_mem hr)).2.1
  rw [List.length_range] at this
  unfold every
  omega
def stepQ (f : PD → Pr2 → PD) (R : List (List Int)) (a : PD) (q : Pr2) : PD := if hit R q = true then f a q else a
def raw (S : List (List (Int × Int))) (D Ks : List Nat) : List Pr2 := D.flatMap fun i => (S.getD i []).flatMap fun p => Ks.map fun k : Nat => (p.1, (k : Int) + p.2)
def Good (R : List (List Int)) (a : PD) : Prop := (ksP a).Nodup ∧ ∀ p ∈ ksP a, p ∈ every R
theorem Good.len (O : OkO n R S) {a : PD} (g : Good R a) : a.length < 100000 := by
  have h1 := nodup_len _ _ g.1 g.2
  have h2 := every_len O
  unfold ksP at h1
  rw [List.length_map] at h1
  omega
theorem Good.put {a : PD} {q : Pr2} {v : V} (g : Good R a) (h0 : 0 ≤ q.1) (h1 : q.1 < (R.length : Int)) (h : hit R q = true) : Good R (putP a q v) := by
  refine ⟨nodup_put g.1, fun p hp => ?_⟩
  rcases mem_put.mp hp with z | z
  · exact g.2 p z
  · rw [z]
    unfold hit at h
    rw [Bool.and_eq_true, decide_eq_true_eq, decide_eq_true_eq] at h
    exact mem_every.mpr ⟨h0, h1, h.1, h.2⟩
theorem dput_ok {i : Nat} {fk fv : SE} {ρ : Rho} {kvs : PD} {q : Pr2} {dv : PyData} {w : V} (h1 : fv ρ dc = .ok (.p dv, dc)) (h2 : ρ[i]? = some (some (.od kvs))) (h3 : fk ρ dc = .ok (.p (pD q), dc)) (h4 : scalV dv = some w) (h5 : kvs.length < 100000) :
    DL.sDPut i fk fv ρ dc = .ok (.nx, ρ.set i (some (.od (putP kvs q w))), dc) := by
  unfold DL.sDPut
  rw [thn_ap, h1, and_ok]
  show (match ρ[i]? with | some (some (.od kvs)) => _ | _ => _) = _
  rw [h2]
  show SM.thn fk _ ρ dc = _
  rw [thn_ap, h3, and_ok]
  show (match scalV dv, pairOf (pD q) with | some w, some k => if kvs.length < 100000 then Res.ok (Fl.nx, ρ.set i (some (.od (putP kvs k w))), dc) else .stuck | _, _ => .stuck) = _
  rw [h4]
  show (if kvs.length < 100000 then Res.ok (Fl.nx, ρ.set i (some (.od (putP kvs q w))), dc) else .stuck) = _
  rw [if_pos h5]
theorem at_R (O : OkO n R S) {r : Int} (h0 : 0 ≤ r) (h1 : r < R.length) : atI (R.map rankD) r = some (rankD (R.getD r.toNat [])) := by
  have l : r.toNat < R.length := by omega
  rw [at_int h0 (by rw [List.length_map]; exact h1), List.getElem_map, List.getD_eq_getElem?_getD, List.getElem?_eq_getElem l]
  rfl
theorem at_S {i : Nat} (h : i < S.length) : atI (S.map stopD) (i : Int) = some (stopD (S.getD i [])) := by
  rw [at_nat (by rw [List.length_map]; exact h), List.getElem_map, List.getD_eq_getElem?_getD, List.getElem?_eq_getElem h]
  rfl
/-- the three loops over stops, parts and keys; the innermost body is told by hb -/
theorem loops {body : SS} {f : PD → Pr2 → PD} {G : PD → Prop} {dv kv : PyData} {N4 : List (Option Val)} (O : OkO n R S) (hD : ∀ i ∈ D, i < S.length) (fD : frD (.p dv) = some (natD D)) (fK : frD (.p kv) = some (natD Ks))
    (fg : ∀ (a : PD) (q : Pr2), G a → 0 ≤ q.1 → q.1 < (R.length : Int) → hit R q = true → G (f a q))
    (hb : ∀ (a : PD) (p : Pr2) (k : Nat) (x4 : Option Val), G a → 0 ≤ p.1 → p.1 < (R.length : Int) → body ([some (.p (ogD n R S)), some (.p dv), some (.p kv), some (.od a), x4, some (.p (.int p.1)), some (.p (.int p.2)), some (.p (.int k))] ++ N4) dc =
      .ok (.nx, [some (.p (ogD n R S)), some (.p dv), some (.p kv), some (.od (stepQ f R a (p.1, (k : Int) + p.2))), x4, some (.p (.int p.1)), some (.p (.int p.2)), some (.p (.int k))] ++ N4, dc)) :
    ∀ a, G a → ∀ x4 x5 x6 x7, ∃ y4 y5 y6 y7, sFor (itF (eVar 1)) (tgN 4) (sFor (itF (eBin vIx (eBin vIx (eVar 0) (eP (.int 2))) (eVar 4))) (tgT [5, 6]) (sFor (itF (eVar 2)) (tgN 7) body)) ([some (.p (ogD n R S)), some (.p dv), some (.p kv), some (.od a), x4, x5, x6, x7] ++ N4) dc =
      .ok (.nx, [some (.p (ogD n R S)), some (.p dv), some (.p kv), some (.od ((raw S D Ks).foldl (stepQ f R) a)), y4, y5, y6, y7] ++ N4, dc) ∧ G ((raw S D Ks).foldl (stepQ f R) a) := by
  intro a ga x4 x5 x6 x7
  have gs : ∀ (a : PD) (q : Pr2), G a → 0 ≤ q.1 → q.1 < (R.length : Int) → G (stepQ f R a q) := fun a q g h0 h1 => by
    unfold stepQ
    split
    · rename_i h; exact fg a q g h0 h1 h
    · exact g
  -- keys
  have L3 : ∀ (p : Pr2) (a : PD) (y4 y7 : Option Val), 0 ≤ p.1 → p.1 < (R.length : Int) → G a → ∃ z7, sFor (itF (eVar 2)) (tgN 7) body ([some (.p (ogD n R S)), some (.p dv), some (.p kv), some (.od a), y4, some (.p (.int p.1)), some (.p (.int p.2)), y7] ++ N4) dc =
      .ok (.nx, [some (.p (ogD n R S)), some (.p dv), some (.p kv), some (.od ((Ks.map fun k : Nat => (p.1, (k : Int) + p.2)).foldl (stepQ f R) a)), y4, some (.p (.int p.1)), some (.p (.int p.2)), z7] ++ N4, dc) ∧ G ((Ks.map fun k : Nat => (p.1, (k : Int) + p.2)).foldl (stepQ f R) a) := by
    intro p a y4 y7 h0 h1 g
    have := forD_fold (dc := dc) (tg := tgN 7) (body := body) (I := fun (a : PD) ρ => G a ∧ ∃ z7, ρ = [some (.p (ogD n R S)), some (.p dv), some (.p kv), some (.od a), y4, some (.p (.int p.1)), some (.p (.int p.2)), z7] ++ N4)
      (st := fun a d => match d with | .int k => stepQ f R a (p.1, k + p.2) | _ => a) (natD Ks) (fun x hx a ρ ⟨g, z7, e⟩ => by
        obtain ⟨k, _, rfl⟩ := List.mem_map.mp hx
        subst e
        exact ⟨_, _, rfl, hb a p k y4 g h0 h1, gs _ _ g h0 h1, _, rfl⟩) a _ ⟨g, y7, rfl⟩
    obtain ⟨ρ', e1, g2, z7, rfl⟩ := this
    rw [List.foldl_map] at e1 g2
    rw [List.foldl_map]
    refine ⟨z7, ?_, g2⟩
    rw [sFor_ap, itF_ap, eVar_ap]
    show ((Res.ok (Val.p kv, dc)).andThen fun p => Res.opt p.2 (frD p.1)).andThen _ = _
    rw [and_ok, fK, opt_some, and_ok, e1]
  -- parts
  have L2 : ∀ (i : Nat) (a : PD) (y5 y6 y7 : Option Val), i < S.length → G a → ∃ z5 z6 z7, sFor (itF (eBin vIx (eBin vIx (eVar 0) (eP (.int 2))) (eVar 4))) (tgT [5, 6]) (sFor (itF (eVar 2)) (tgN 7) body) ([some (.p (ogD n R S)), some (.p dv), some (.p kv), some (.od a), some (.p (.int i)), y5, y6, y7] ++ N4) dc =
      .ok (.nx, [some (.p (ogD n R S)), some (.p dv), some (.p kv), some (.od (((S.getD i []).flatMap fun p => Ks.map fun k : Nat => (p.1, (k : Int) + p.2)).foldl (stepQ f R) a)), some (.p (.int i)), z5, z6, z7] ++ N4, dc) ∧ G (((S.getD i []).flatMap fun p => Ks.map fun k : Nat => (p.1, (k : Int) + p.2)).foldl (stepQ f R) a) := by
    intro i a y5 y6 y7 hi g
    have hp : ∀ p ∈ S.getD i [], 0 ≤ p.1 ∧ p.1 < (R.length : Int) := fun p hp => by
      rw [List.getD_eq_getElem?_getD, List.getElem?_eq_getElem hi] at hp
      have := (O.s2 _ (List.getElem_mem hi)).2.2.2 p hp
      exact ⟨this.1, this.2.1⟩
    have := forD_fold (dc := dc) (tg := tgT [5, 6]) (body := sFor (itF (eVar 2)) (tgN 7) body) (I := fun (a : PD) ρ => G a ∧ ∃ z5 z6 z7, ρ = [some (.p (ogD n R S)), some (.p dv), some (.p kv), some (.od a), some (.p (.int i)), z5, z6, z7] ++ N4)
      (st := fun a d => match d with | .tuple [.int x, .int y] => (Ks.map fun k : Nat => (x, (k : Int) + y)).foldl (stepQ f R) a | _ => a) ((S.getD i []).map pD) (fun x hx a ρ ⟨g, z5, z6, z7, e⟩ => by
        obtain ⟨p, hpm, rfl⟩ := List.mem_map.mp hx
        subst e
        obtain ⟨h0, h1⟩ := hp p hpm
        obtain ⟨w7, e3, g3⟩ := L3 p a (some (.p (.int i))) z7 h0 h1 g
        exact ⟨_, _, rfl, e3, g3, _, _, _, rfl⟩) a _ ⟨g, y5, y6, y7, rfl⟩
    obtain ⟨ρ', e1, g2, z5, z6, z7, rfl⟩ := this
    have ef : ∀ a : PD, ((S.getD i []).map pD).foldl (fun a d => match d with | .tuple [.int x, .int y] => (Ks.map fun k : Nat => (x, (k : Int) + y)).foldl (stepQ f R) a | _ => a) a = ((S.getD i []).flatMap fun p => Ks.map fun k : Nat => (p.1, (k : Int) + p.2)).foldl (stepQ f R) a := fun a => by
      rw [List.foldl_map, List.foldl_flatMap]
      rfl
    rw [ef] at e1 g2
    refine ⟨z5, z6, z7, ?_, g2⟩
    simp only [List.cons_append, List.nil_append] at e1 ⊢
    simp only [sFor_ap, itF_ap, eBin_ap, eVar_ap, eP_ap, List.getElem?_cons_zero, List.getElem?_cons_succ, and_ok, ix_t, at_2, at_S hi, Option.map_some, opt_some, frD]
    exact e1
  have := forD_fold (dc := dc) (tg := tgN 4) (body := sFor (itF (eBin vIx (eBin vIx (eVar 0) (eP (.int 2))) (eVar 4))) (tgT [5, 6]) (sFor (itF (eVar 2)) (tgN 7) body)) (I := fun (a : PD) ρ => G a ∧ ∃ z4 z5 z6 z7, ρ = [some (.p (ogD n R S)), some (.p dv), some (.p kv), some (.od a), z4, z5, z6, z7] ++ N4)
    (st := fun a d => match d with | .int i => ((S.getD i.toNat []).flatMap fun p => Ks.map fun k : Nat => (p.1, (k : Int) + p.2)).foldl (stepQ f R) a | _ => a) (natD D) (fun x hx a ρ ⟨g, z4, z5, z6, z7, e⟩ => by
      obtain ⟨i, hi, rfl⟩ := List.mem_map.mp hx
      subst e
      obtain ⟨w5, w6, w7, e3, g3⟩ := L2 i a z5 z6 z7 (hD i hi) g
      exact ⟨_, _, rfl, e3, g3, _, _, _, _, rfl⟩) a _ ⟨ga, x4, x5, x6, x7, rfl⟩
  obtain ⟨ρ', e1, g2, z4, z5, z6, z7, rfl⟩ := this
  have ef : ∀ a : PD, (natD D).foldl (fun a d => match d with | .int i => ((S.getD i.toNat []).flatMap fun p => Ks.map fun k : Nat => (p.1, (k : Int) + p.2)).foldl (stepQ f R) a | _ => a) a = (raw S D Ks).foldl (stepQ f R) a := fun a => by
    unfold raw
    rw [List.foldl_map, List.foldl_flatMap]
    rfl
  rw [ef] at e1 g2
  refine ⟨z4, z5, z6, z7, ?_, g2⟩
  rw [sFor_ap, itF_ap, eVar_ap]
  show ((Res.ok (Val.p dv, dc)).andThen fun p => Res.opt p.2 (frD p.1)).andThen _ = _
  rw [and_ok, fD, opt_some, and_ok, e1]
end
/-! ### pipes_of -/
abbrev bTst : SM Bool := tstV (eChain vLe vLt (eP (.int 0)) (eBin vAdd (eVar 7) (eVar 6)) (eCall vLen (aCons (eBin vIx (eBin vIx (eVar 0) (eP (.int 1))) (eVar 5)) aNil)))
section
variable {n : Int} {R : List (List Int)} {S : List (List (Int × Int))} {D Ks : List Nat} {dc : Dc}
theorem len_R (O : OkO n R S) {r : Int} (h0 : 0 ≤ r) (h1 : r < (R.length : Int)) : vIx (.p (.tuple (R.map rankD))) (.p (.int r)) = some (.p (rankD (R.getD r.toNat []))) := by
  rw [ix_t, at_R O h0 h1]
  rfl
theorem bTst_eq (O : OkO n R S) {x1 x2 x3 x4 : Option Val} {p : Pr2} {k : Nat} {N4 : List (Option Val)} (h0 : 0 ≤ p.1) (h1 : p.1 < (R.length : Int)) :
    bTst (some (.p (ogD n R S)) :: x1 :: x2 :: x3 :: x4 :: some (.p (.int p.1)) :: some (.p (.int p.2)) :: some (.p (.int k)) :: N4) dc = .ok (hit R (p.1, (k : Int) + p.2), dc) := by
  unfold hit lenR
  by_cases c : 0 ≤ (k : Int) + p.2
  · have c1 : decide (0 ≤ (k : Int) + p.2) = true := decide_eq_true c
    simp only [and_ok, and_exn, and_stuck, opt_some, bind_ap, thn_ap, ret_ap, sopt_ap, eP_ap, eVar_ap, eBin_ap, eUn_ap, eChain_ap, chK_t, chK_f, aNil_ap, aCons_ap, eCall_ap, tstV_ap, asB_b, tAnd_ap, tOr_ap, tNot_ap, eAnd_ap, eOr_ap, eNot_ap, eIf_ap, eApp_ap, eAppK_ap, argB_p1, argB_p2, argB_p3, argB_p4, argB_p5, argB_d1, argB_d2, argB_s2, argB_f2, eAll_ap, eComp_ap, itS_ap, itF_ap, frD, tgN_ap, tgT_ap, seq_ap, sNx_ap, sIf_ap, sRet_ap, rtK_some, sSet_ap, setK_some, sFor_ap, unp_ap, unK_2, unK_3, fnK_rt, fnK_nx, fnK_exn, fnM_ap, List.getElem?_cons_zero, List.getElem?_cons_succ, List.map_cons, List.map_nil, List.length_cons, List.length_nil, List.length_map, List.replicate, List.append_nil, List.cons_append, List.nil_append, Option.map_some, Option.map_none, Option.bind_some, Option.bind_none, if_true, if_false, ite_true, ite_false, Bool.false_eq_true, Bool.true_eq_false, reduceCtorEq, isi_t, len_t, len_l, vLe, vLt, vGt, vGe, vAdd, vSub, sq_t, sq_l, wipeR, Val.ice, Val.frz, datas, Bool.not_true, Bool.not_false, setAll, List.set_cons_zero, List.set_cons_succ, List.set_nil, Nat.reduceAdd, Nat.reduceSub, Nat.reduceLeDiff, decide_true, c1, ix_t, at_1]
    rw [at_R O h0 h1]
    simp only [and_ok, and_exn, and_stuck, opt_some, bind_ap, thn_ap, ret_ap, sopt_ap, eP_ap, eVar_ap, eBin_ap, eUn_ap, eChain_ap, chK_t, chK_f, aNil_ap, aCons_ap, eCall_ap, tstV_ap, asB_b, tAnd_ap, tOr_ap, tNot_ap, eAnd_ap, eOr_ap, eNot_ap, eIf_ap, eApp_ap, eAppK_ap, argB_p1, argB_p2, argB_p3, argB_p4, argB_p5, argB_d1, argB_d2, argB_s2, argB_f2, eAll_ap, eComp_ap, itS_ap, itF_ap, frD, tgN_ap, tgT_ap, seq_ap, sNx_ap, sIf_ap, sRet_ap, rtK_some, sSet_ap, setK_some, sFor_ap, unp_ap, unK_2, unK_3, fnK_rt, fnK_nx, fnK_exn, fnM_ap, List.getElem?_cons_zero, List.getElem?_cons_succ, List.map_cons, List.map_nil, List.length_cons, List.length_nil, List.length_map, List.replicate, List.append_nil, List.cons_append, List.nil_append, Option.map_some, Option.map_none, Option.bind_some, Option.bind_none, if_true, if_false, ite_true, ite_false, Bool.false_eq_true, Bool.true_eq_false, reduceCtorEq, isi_t, len_t, len_l, vLe, vLt, vGt, vGe, vAdd, vSub, sq_t, sq_l, wipeR, Val.ice, Val.frz, datas, Bool.not_true, Bool.not_false, setAll, List.set_cons_zero, List.set_cons_succ, List.set_nil, Nat.reduceAdd, Nat.reduceSub, Nat.reduceLeDiff, decide_true, Bool.true_and]
  · have c1 : decide (0 ≤ (k : Int) + p.2) = false := decide_eq_false c
    simp only [and_ok, and_exn, and_stuck, opt_some, bind_ap, thn_ap, ret_ap, sopt_ap, eP_ap, eVar_ap, eBin_ap, eUn_ap, eChain_ap, chK_t, chK_f, aNil_ap, aCons_ap, eCall_ap, tstV_ap, asB_b, tAnd_ap, tOr_ap, tNot_ap, eAnd_ap, eOr_ap, eNot_ap, eIf_ap, eApp_ap, eAppK_ap, argB_p1, argB_p2, argB_p3, argB_p4, argB_p5, argB_d1, argB_d2, argB_s2, argB_f2, eAll_ap, eComp_ap, itS_ap, itF_ap, frD, tgN_ap, tgT_ap, seq_ap, sNx_ap, sIf_ap, sRet_ap, rtK_some, sSet_ap, setK_some, sFor_ap, unp_ap, unK_2, unK_3, fnK_rt, fnK_nx, fnK_exn, fnM_ap, List.getElem?_cons_zero, List.getElem?_cons_succ, List.map_cons, List.map_nil, List.length_cons, List.length_nil, List.length_map, List.replicate, List.append_nil, List.cons_append, List.nil_append, Option.map_some, Option.map_none, Option.bind_some, Option.bind_none, if_true, if_false, ite_true, ite_false, Bool.false_eq_true, Bool.true_eq_false, reduceCtorEq, isi_t, len_t, len_l, vLe, vLt, vGt, vGe, vAdd, vSub, sq_t, sq_l, wipeR, Val.ice, Val.frz, datas, Bool.not_true, Bool.not_false, setAll, List.set_cons_zero, List.set_cons_succ, List.set_nil, Nat.reduceAdd, Nat.reduceSub, Nat.reduceLeDiff, decide_true, c1, ix_t, at_1, Bool.false_and]
def kvsT (R : List (List Int)) (S : List (List (Int × Int))) (D Ks : List Nat) : PD := (raw S D Ks).foldl (stepQ addT R) []
end
/-! ### what the law looks at -/
section
variable {n : Int} {R : List (List Int)} {S : List (List (Int × Int))} {D Ks : List Nat} {dc : Dc}
def rowN (R : List (List Int)) (r : Nat) : List Pr2 := (List.range (R.getD r []).length).map fun p : Nat => ((r : Int), (p : Int))
def everyN (R : List (List Int)) (c : Nat) : List Pr2 := (List.range c).flatMap (rowN R)
theorem everyN_all : everyN R R.length = every R := rfl
theorem everyN_succ (c : Nat) : everyN R (c + 1) = everyN R c ++ rowN R c := by
  unfold everyN
  rw [List.range_succ, List.flatMap_append, List.flatMap_cons, List.flatMap_nil, List.append_nil]
theorem row_len (O : OkO n R S) {c : Nat} (h : c < R.length) : (rowN R c).length ≤ 20 := by
  unfold rowN
  rw [List.length_map, List.length_range, List.getD_eq_getElem?_getD, List.getElem?_eq_getElem h]
  exact (O.r3 _ (List.getElem_mem h)).2.1
theorem everyN_len (O : OkO n R S) {c : Nat} (h : c ≤ R.length) : (everyN R c).length ≤ 20 * c := by
  have := flat_len (f := rowN R) (c := 20) (List.range c) fun r hr => row_len O (Nat.lt_of_lt_of_le (List.mem_range.mp hr) h)
  rwa [List.length_range] at this
theorem add_l (a b : List PyData) (h : a.length + b.length ≤ 100000) : vAdd (.p (.list a)) (.p (.list b)) = some (.p (.list (a ++ b))) := by
  show (if a.length + b.length ≤ 100000 then _ else _) = _
  rw [if_pos h]
theorem pre_nat {m c : Nat} {d r : List Nat} {x : Nat} (e : List.range m = d ++ x :: r) : x = d.length ∧ x < m ∧ d = List.range x := by
  have h1 := congrArg (fun l => l[d.length]?) e
  have hl := congrArg List.length e
  rw [List.length_range, List.length_append, List.length_cons] at hl
  have h2 : d.length < m := by omega
  simp only [List.getElem?_append_right (Nat.le_refl _), Nat.sub_self, List.getElem?_cons_zero] at h1
  rw [List.getElem?_range h2] at h1
  have h3 := Option.some.inj h1
  refine ⟨h3.symm, by omega, ?_⟩
  have h4 := congrArg (List.take d.length) e
  rw [List.take_left, List.take_range] at h4
  rw [← h4, ← h3]
  congr 1
  omega
end
/-! ### the law's sounds -/
def shN (S : List (List (Int × Int))) (r : Int) (i : Nat) : List Int := ((S.getD i []).filter fun p => p.1 == r).map (·.2)
def inR (S : List (List (Int × Int))) (D Ks : List Nat) (q : Pr2) : Bool := decide ((0 : Int) < (((D.flatMap (shN S q.1)).filter fun sh => (Ks.map fun k : Nat => (k : Int)).any (· == q.2 - sh)).length : Nat))
def snd (R : List (List Int)) (S : List (List (Int × Int))) (D Ks : List Nat) : List Pr2 := (every R).filter (inR S D Ks)
theorem intsOf_map (l : List Int) : intsOf (l.map .int) = some l := by
  induction l with
  | nil => rfl
  | cons a l ih =>
    show (intsOf (l.map .int)).map (a :: ·) = _
    rw [ih]
    rfl
theorem natD_ints (l : List Nat) : natD l = (l.map fun k : Nat => (k : Int)).map PyData.int := by rw [List.map_map]; rfl
theorem inI_eq {kv : PyData} {Ks : List Nat} (i : Int) (fK : frD (.p kv) = some (natD Ks)) : vInI (.p (.int i)) (.p kv) = some (.p (.bool ((Ks.map fun k : Nat => (k : Int)).any (· == i)))) := by
  have e : sqOf (.p kv) = some (natD Ks) := by
    cases kv with
    | list ds => exact fK
    | tuple ds => exact fK
    | _ => cases fK
  show (match (sqOf (.p kv)).bind intsOf with | some ns => some (Val.p (.bool (ns.any (· == i)))) | none => none) = _
  rw [e, Option.bind_some, natD_ints, intsOf_map]
section
variable {n : Int} {R : List (List Int)} {S : List (List (Int × Int))} {D Ks : List Nat} {dc : Dc}
theorem stop_len (O : OkO n R S) (i : Nat) : (S.getD i []).length ≤ 3 := by
  rw [List.getD_eq_getElem?_getD]
  by_cases h : i < S.length
  · rw [List.getElem?_eq_getElem h]
    exact (O.s2 _ (List.getElem_mem h)).2.1
  · rw [List.getElem?_eq_none (Nat.le_of_not_lt h)]
    exact Nat.zero_le _
theorem shN_len (O : OkO n R S) (r : Int) (i : Nat) : (shN S r i).length ≤ 3 := by
  unfold shN
  rw [List.length_map]
  exact Nat.le_trans (List.length_filter_le _ _) (stop_len O i)
abbrev bParts : SS := sSet 6 (eBin vAdd (eVar 6) (eComp (itS (eBin vIx (eBin vIx (eVar 0) (eP (.int 2))) (eVar 7))) (tgT [8, 9]) [8, 9] (tstV (eBin vEq (eVar 8) (eVar 4))) (eVar 9)))
theorem parts_eq (O : OkO n R S) {dv kv : PyData} (hD : ∀ i ∈ D, i < S.length) (hl : D.length ≤ 1000) (fD : frD (.p dv) = some (natD D)) {ds : List PyData} {r p : Int} {x7 : Option Val} :
    ∃ y7, sFor (itF (eVar 1)) (tgN 7) bParts [some (.p (ogD n R S)), some (.p dv), some (.p kv), some (.ol ds), some (.p (.int r)), some (.p (.int p)), some (.p (.list [])), x7, none, none] dc =
      .ok (.nx, [some (.p (ogD n R S)), some (.p dv), some (.p kv), some (.ol ds), some (.p (.int r)), some (.p (.int p)), some (.p (.list ((D.flatMap (shN S r)).map .int))), y7, none, none], dc) := by
  have := forD_pre (dc := dc) (tg := tgN 7) (body := bParts) (g := fun i : Nat => PyData.int i) (l := D)
    (I := fun d ρ => ∃ x7, ρ = [some (.p (ogD n R S)), some (.p dv), some (.p kv), some (.ol ds), some (.p (.int r)), some (.p (.int p)), some (.p (.list ((d.flatMap (shN S r)).map .int))), x7, none, none]) (fun d i rest e ρ ⟨x7, hρ⟩ => by
      subst hρ
      have hi : i < S.length := hD i (by rw [e]; simp)
      have hd : d.length ≤ 1000 := by
        have := congrArg List.length e
        rw [List.length_append] at this
        omega
      have hfl := flat_len (f := shN S r) (c := 3) d fun j _ => shN_len O r j
      have hs := shN_len O r i
      refine ⟨[some (.p (ogD n R S)), some (.p dv), some (.p kv), some (.ol ds), some (.p (.int r)), some (.p (.int p)), some (.p (.list ((d.flatMap (shN S r)).map .int))), some (.p (.int i)), none, none], _, rfl, ?_, some (.p (.int i)), rfl⟩
      have ec := compL (it := itS (eBin vIx (eBin vIx (eVar 0) (eP (.int 2))) (eVar 7))) (tg := tgT [8, 9]) (vs := [8, 9]) (test := tstV (eBin vEq (eVar 8) (eVar 4))) (elt := eVar 9) (g := pD) (l := S.getD i []) (t := fun q => q.1 == r) (f := fun q => .int q.2)
        (ρ := [some (.p (ogD n R S)), some (.p dv), some (.p kv), some (.ol ds), some (.p (.int r)), some (.p (.int p)), some (.p (.list ((d.flatMap (shN S r)).map .int))), some (.p (.int i)), none, none]) (dc := dc)
        (by simp only [and_ok, and_exn, and_stuck, opt_some, bind_ap, thn_ap, ret_ap, sopt_ap, eP_ap, eVar_ap, eBin_ap, eUn_ap, eChain_ap, chK_t, chK_f, aNil_ap, aCons_ap, eCall_ap, tstV_ap, asB_b, tAnd_ap, tOr_ap, tNot_ap, eAnd_ap, eOr_ap, eNot_ap, eIf_ap, eApp_ap, eAppK_ap, argB_p1, argB_p2, argB_p3, argB_p4, argB_p5, argB_d1, argB_d2, argB_s2, argB_f2, eAll_ap, eComp_ap, itS_ap, itF_ap, frD, tgN_ap, tgT_ap, seq_ap, sNx_ap, sIf_ap, sRet_ap, rtK_some, sSet_ap, setK_some, sFor_ap, unp_ap, unK_2, unK_3, fnK_rt, fnK_nx, fnK_exn, fnM_ap, List.getElem?_cons_zero, List.getElem?_cons_succ, List.map_cons, List.map_nil, List.length_cons, List.length_nil, List.length_map, List.replicate, List.append_nil, List.cons_append, List.nil_append, Option.map_some, Option.map_none, Option.bind_some, Option.bind_none, if_true, if_false, ite_true, ite_false, Bool.false_eq_true, Bool.true_eq_false, reduceCtorEq, isi_t, len_t, len_l, vLe, vLt, vGt, vGe, vAdd, vSub, sq_t, sq_l, wipeR, Val.ice, Val.frz, datas, Bool.not_true, Bool.not_false, setAll, List.set_cons_zero, List.set_cons_succ, List.set_nil, Nat.reduceAdd, Nat.reduceSub, Nat.reduceLeDiff, decide_true, ix_t, at_2, at_S hi]) (by have := stop_len O i; omega)
        (fun q hq => ⟨[some (.p (ogD n R S)), some (.p dv), some (.p kv), some (.ol ds), some (.p (.int r)), some (.p (.int p)), some (.p (.list ((d.flatMap (shN S r)).map .int))), some (.p (.int i)), some (.p (.int q.1)), some (.p (.int q.2))], rfl, by simp only [and_ok, and_exn, and_stuck, opt_some, bind_ap, thn_ap, ret_ap, sopt_ap, eP_ap, eVar_ap, eBin_ap, eUn_ap, eChain_ap, chK_t, chK_f, aNil_ap, aCons_ap, eCall_ap, tstV_ap, asB_b, tAnd_ap, tOr_ap, tNot_ap, eAnd_ap, eOr_ap, eNot_ap, eIf_ap, eApp_ap, eAppK_ap, argB_p1, argB_p2, argB_p3, argB_p4, argB_p5, argB_d1, argB_d2, argB_s2, argB_f2, eAll_ap, eComp_ap, itS_ap, itF_ap, frD, tgN_ap, tgT_ap, seq_ap, sNx_ap, sIf_ap, sRet_ap, rtK_some, sSet_ap, setK_some, sFor_ap, unp_ap, unK_2, unK_3, fnK_rt, fnK_nx, fnK_exn, fnM_ap, List.getElem?_cons_zero, List.getElem?_cons_succ, List.map_cons, List.map_nil, List.length_cons, List.length_nil, List.length_map, List.replicate, List.append_nil, List.cons_append, List.nil_append, Option.map_some, Option.map_none, Option.bind_some, Option.bind_none, if_true, if_false, ite_true, ite_false, Bool.false_eq_true, Bool.true_eq_false, reduceCtorEq, isi_t, len_t, len_l, vLe, vLt, vGt, vGe, vAdd, vSub, sq_t, sq_l, wipeR, Val.ice, Val.frz, datas, Bool.not_true, Bool.not_false, setAll, List.set_cons_zero, List.set_cons_succ, List.set_nil, Nat.reduceAdd, Nat.reduceSub, Nat.reduceLeDiff, decide_true, vEq_int], fun _ => rfl⟩)
      have em : ((S.getD i []).filter fun q => q.1 == r).map (fun q : Pr2 => PyData.int q.2) = (shN S r i).map .int := by unfold shN; rw [List.map_map]; rfl
      rw [em] at ec
      have ha := add_l ((d.flatMap (shN S r)).map .int) ((shN S r i).map .int) (by rw [List.length_map, List.length_map]; omega)
      simp only [sSet_ap, eBin_ap, eVar_ap, List.getElem?_cons_zero, List.getElem?_cons_succ, and_ok, ec, ha, opt_some, Val.frz, setK_some, List.set_cons_zero, List.set_cons_succ]
      rw [List.flatMap_append, List.flatMap_cons, List.flatMap_nil, List.append_nil, List.map_append]) _ ⟨x7, rfl⟩
  obtain ⟨ρ', e, y7, rfl⟩ := this
  refine ⟨y7, ?_⟩
  rw [sFor_ap, itF_ap, eVar_ap]
  show ((Res.ok (Val.p dv, dc)).andThen fun p => Res.opt p.2 (frD p.1)).andThen _ = _
  rw [and_ok, fD, opt_some, and_ok]
  exact e
end
section
variable {n : Int} {R : List (List Int)} {S : List (List (Int × Int))} {D Ks : List Nat} {dc : Dc}
theorem app_ok {i : Nat} {a : SM (List Val)} {ρ : Rho} {ds : List PyData} {d : PyData} (h1 : ρ[i]? = some (some (.ol ds))) (h2 : a ρ dc = .ok ([.p d], dc)) (h3 : ds.length < 100000) : sMutL i mAppend a ρ dc = .ok (.nx, ρ.set i (some (.ol (ds ++ [d]))), dc) := by
  unfold sMutL
  rw [h1]
  show SM.thn a _ ρ dc = _
  rw [thn_ap, h2, and_ok]
  show (match (if ds.length < 100000 then some (ds ++ [d]) else none) with | some ds' => Res.ok (Fl.nx, ρ.set i (some (.ol ds')), dc) | none => .stuck) = _
  rw [if_pos h3]
end
/-! ### the dict's keys are the law's sounds -/
section
variable {n : Int} {R : List (List Int)} {S : List (List (Int × Int))} {D Ks : List Nat} {dc : Dc}
def ltP (p q : Pr2) : Prop := p.1 < q.1 ∨ (p.1 = q.1 ∧ p.2 < q.2)
theorem every_up : (every R).Pairwise ltP := by
  unfold every
  rw [List.pairwise_flatMap]
  refine ⟨fun r _ => ?_, ?_⟩
  · rw [List.pairwise_map]
    exact List.pairwise_lt_range.imp fun h => .inr ⟨rfl, by show ((_ : Nat) : Int) < ((_ : Nat) : Int); omega⟩
  · refine List.pairwise_lt_range.imp fun {a b} h x hx y hy => ?_
    obtain ⟨i, _, rfl⟩ := List.mem_map.mp hx
    obtain ⟨j, _, rfl⟩ := List.mem_map.mp hy
    exact .inl (by show ((a : Nat) : Int) < ((b : Nat) : Int); omega)
theorem ltP_le {p q : Pr2} (h : ltP p q) : pLe p q = true ∧ p ≠ q := by
  unfold ltP at h
  refine ⟨?_, fun e => ?_⟩
  · unfold pLe
    rw [decide_eq_true_eq]
    omega
  · rw [e] at h
    omega
theorem snd_up : (snd R S D Ks).Pairwise ltP := every_up.filter _
theorem mem_raw {q : Pr2} : q ∈ raw S D Ks ↔ ∃ i ∈ D, ∃ p ∈ S.getD i [], ∃ k ∈ Ks, q = (p.1, (k : Int) + p.2) := by
  unfold raw
  rw [List.mem_flatMap]
  constructor
  · rintro ⟨i, hi, h⟩
    obtain ⟨p, hp, h⟩ := List.mem_flatMap.mp h
    obtain ⟨k, hk, e⟩ := List.mem_map.mp h
    exact ⟨i, hi, p, hp, k, hk, e.symm⟩
  · rintro ⟨i, hi, p, hp, k, hk, e⟩
    exact ⟨i, hi, List.mem_flatMap.mpr ⟨p, hp, List.mem_map.mpr ⟨k, hk, e.symm⟩⟩⟩
theorem inR_iff {q : Pr2} : inR S D Ks q = true ↔ q ∈ raw S D Ks := by
  unfold inR
  rw [decide_eq_true_eq, mem_raw]
  constructor
  · intro h
    have h' : 0 < ((D.flatMap (shN S q.1)).filter fun sh => (Ks.map fun k : Nat => (k : Int)).any (· == q.2 - sh)).length := by omega
    obtain ⟨sh, hsh⟩ := List.exists_mem_of_length_pos h'
    obtain ⟨h1, h2⟩ := List.mem_filter.mp hsh
    obtain ⟨i, hi, h3⟩ := List.mem_flatMap.mp h1
    unfold shN at h3
    obtain ⟨p, hp, rfl⟩ := List.mem_map.mp h3
    obtain ⟨hp1, hp2⟩ := List.mem_filter.mp hp
    obtain ⟨x, hx, e⟩ := List.any_eq_true.mp h2
    obtain ⟨k, hk, rfl⟩ := List.mem_map.mp hx
    have e1 := beq_iff_eq.mp hp2
    have e2 := beq_iff_eq.mp e
    exact ⟨i, hi, p, hp1, k, hk, Prod.ext e1.symm (by show q.2 = (k : Int) + p.2; omega)⟩
  · rintro ⟨i, hi, p, hp, k, hk, rfl⟩
    have : p.2 ∈ (D.flatMap (shN S p.1)).filter fun sh => (Ks.map fun k : Nat => (k : Int)).any (· == (k : Int) + p.2 - sh) := by
      refine List.mem_filter.mpr ⟨List.mem_flatMap.mpr ⟨i, hi, ?_⟩, List.any_eq_true.mpr ⟨(k : Int), List.mem_map.mpr ⟨k, hk, rfl⟩, beq_iff_eq.mpr (by omega)⟩⟩
      unfold shN
      exact List.mem_map.mpr ⟨p, List.mem_filter.mpr ⟨hp, beq_self_eq_true _⟩, rfl⟩
    exact Int.natCast_pos.mpr (List.length_pos_of_mem this)
theorem fold_hit (f : PD → Pr2 → PD) (l : List Pr2) (a : PD) : l.foldl (stepQ f R) a = (l.filter (hit R)).foldl f a := by
  rw [List.foldl_filter]
  rfl
theorem raw_rank (O : OkO n R S) (hD : ∀ i ∈ D, i < S.length) {q : Pr2} (h : q ∈ raw S D Ks) : 0 ≤ q.1 ∧ q.1 < R.length := by
  obtain ⟨i, hi, p, hp, k, hk, rfl⟩ := mem_raw.mp h
  have hi' := hD i hi
  rw [List.getD_eq_getElem?_getD, List.getElem?_eq_getElem hi'] at hp
  have := (O.s2 _ (List.getElem_mem hi')).2.2.2 p hp
  exact ⟨this.1, this.2.1⟩
theorem hit_every {q : Pr2} (h0 : 0 ≤ q.1) (h1 : q.1 < R.length) : hit R q = true ↔ q ∈ every R := by
  rw [mem_every]
  unfold hit
  rw [Bool.and_eq_true, decide_eq_true_eq, decide_eq_true_eq]
  exact ⟨fun ⟨a, b⟩ => ⟨h0, h1, a, b⟩, fun ⟨_, _, a, b⟩ => ⟨a, b⟩⟩
theorem mem_hits (O : OkO n R S) (hD : ∀ i ∈ D, i < S.length) {q : Pr2} : q ∈ (raw S D Ks).filter (hit R) ↔ q ∈ snd R S D Ks := by
  unfold snd
  rw [List.mem_filter, List.mem_filter, inR_iff]
  constructor
  · rintro ⟨h1, h2⟩
    obtain ⟨a, b⟩ := raw_rank O hD h1
    exact ⟨(hit_every a b).mp h2, h1⟩
  · rintro ⟨h1, h2⟩
    obtain ⟨a, b⟩ := raw_rank O hD h2
    exact ⟨h2, (hit_every a b).mpr h1⟩
theorem kvsT_facts (O : OkO n R S) (hD : ∀ i ∈ D, i < S.length) : (ksP (kvsT R S D Ks)).Nodup ∧ (∀ p, p ∈ ksP (kvsT R S D Ks) ↔ p ∈ snd R S D Ks) ∧ allTr (kvsT R S D Ks) = true := by
  unfold kvsT
  rw [fold_hit]
  obtain ⟨h1, h2, h3⟩ := addT_facts ((raw S D Ks).filter (hit R)) [] .nil (fun kv h => by cases h)
  refine ⟨h1, fun p => ?_, allTr_of h3⟩
  rw [h2, mem_hits O hD]
  exact ⟨fun z => z.elim (fun z => by cases z) id, .inr⟩
theorem snd_nodup : (snd R S D Ks).Nodup := snd_up.imp fun h => (ltP_le h).2
theorem keysD_eq (kvs : PD) : keysD kvs = (ksP kvs).map pD := by
  unfold keysD ksP
  rw [List.map_map]
  rfl
theorem sort_keys (O : OkO n R S) (hD : ∀ i ∈ D, i < S.length) : sortD (keysD (kvsT R S D Ks)) = (snd R S D Ks).map pD := by
  obtain ⟨h1, h2, _⟩ := kvsT_facts (Ks := Ks) O hD
  rw [keysD_eq, sort_pD, sort_unique h1 (snd_up.imp fun h => ltP_le h) h2]
theorem kvsT_perm (O : OkO n R S) (hD : ∀ i ∈ D, i < S.length) : (ksP (kvsT R S D Ks)).Perm (snd R S D Ks) := by
  obtain ⟨h1, h2, _⟩ := kvsT_facts (Ks := Ks) O hD
  exact perm_of_mem h1 snd_nodup h2
theorem kvsT_len (O : OkO n R S) (hD : ∀ i ∈ D, i < S.length) : (kvsT R S D Ks).length = (snd R S D Ks).length := by
  have := (kvsT_perm (Ks := Ks) O hD).length_eq
  unfold ksP at this
  rwa [List.length_map] at this
/-- two dicts are the same just if the law hears the same -/
theorem same_iff (O : OkO n R S) {D' Ks' : List Nat} (hD : ∀ i ∈ D, i < S.length) (hD' : ∀ i ∈ D', i < S.length) : sameK (kvsT R S D Ks) (kvsT R S D' Ks') = decide (snd R S D Ks = snd R S D' Ks') := by
  obtain ⟨h1, h2, _⟩ := kvsT_facts (Ks := Ks) O hD
  obtain ⟨h3, h4, _⟩ := kvsT_facts (Ks := Ks') O hD'
  rw [Bool.eq_iff_iff, decide_eq_true_eq]
  unfold sameK
  rw [Bool.and_eq_true, beq_iff_eq, List.all_eq_true, kvsT_len O hD, kvsT_len O hD']
  have hmem : (∀ x ∈ kvsT R S D Ks, decide (x.1 ∈ (kvsT R S D' Ks').map (·.1)) = true) ↔ ∀ p ∈ snd R S D Ks, p ∈ snd R S D' Ks' := by
    constructor
    · intro h p hp
      have := (h2 p).mpr hp
      unfold ksP at this
      obtain ⟨x, hx, rfl⟩ := List.mem_map.mp this
      exact (h4 _).mp (of_decide_eq_true (h x hx))
    · intro h x hx
      exact decide_eq_true ((h4 _).mpr (h _ ((h2 _).mp (List.mem_map.mpr ⟨x, hx, rfl⟩))))
  rw [hmem]
  constructor
  · rintro ⟨e, h⟩
    have pm : (snd R S D Ks).Perm (snd R S D' Ks') := by
      refine perm_of_mem snd_nodup snd_nodup fun p => ⟨h p, fun hp => ?_⟩
      rcases Classical.em (p ∈ snd R S D Ks) with c | c
      · exact c
      · exfalso
        have := nodup_len (p :: snd R S D Ks) (snd R S D' Ks') (List.nodup_cons.mpr ⟨c, snd_nodup⟩) (fun x hx => by
          rcases List.mem_cons.mp hx with rfl | hx
          · exact hp
          · exact h x hx)
        rw [List.length_cons] at this
        omega
    have e1 := sort_unique (l := snd R S D Ks) snd_nodup (snd_up.imp fun h => ltP_le h) fun p => Iff.rfl
    have e2 := sort_unique (l := snd R S D Ks) snd_nodup (snd_up.imp fun h => ltP_le h) fun p => pm.mem_iff
    exact e1.symm.trans e2
  · intro e
    rw [e]
    exact ⟨rfl, fun p hp => hp⟩
end
/-! ### the calls, answered by the law's own looks -/
section
variable {n : Nat} {R : List (List Int)} {S : List (List (Int × Int))} {D Ks : List Nat} {dc : Dc}
theorem fr_t (l : List Nat) : frD (.p (.tuple (natD l))) = some (natD l) := rfl
theorem fr_l (l : List Nat) : frD (.p (.list (natD l))) = some (natD l) := rfl
theorem at_ints {l : List Int} {i : Int} (h2 : 0 ≤ i) (h3 : i < l.length) : atI (l.map PyData.int) i = some (.int (l.getD i.toNat 0)) := by
  have h : i.toNat < l.length := by omega
  rw [at_int h2 (by rw [List.length_map]; exact h3), List.getElem_map, List.getD_eq_getElem?_getD, List.getElem?_eq_getElem h]
  rfl
def wq (R : List (List Int)) (q : Pr2) : Int := (R.getD q.1.toNat []).getD q.2.toNat 0
theorem sum_l (l : List Int) : vSum [.p (.list (l.map .int))] = some (.p (.int l.sum)) := by
  show ((lsOf (.p (.list (l.map .int)))).bind intsOf).map _ = _
  show (intsOf (l.map .int)).map _ = _
  rw [intsOf_map]
  rfl
theorem perm_sum {l m : List Int} (h : l.Perm m) : l.sum = m.sum := by
  induction h with
  | nil => rfl
  | cons a _ ih => rw [List.sum_cons, List.sum_cons, ih]
  | swap a b l => rw [List.sum_cons, List.sum_cons, List.sum_cons, List.sum_cons]; omega
  | trans _ _ h1 h2 => exact h1.trans h2
theorem ix_w (O : OkO n R S) {q : Pr2} (h : q ∈ every R) {x0 x1 : Option Val} {N : List (Option Val)} {i j : Nat} (hi : ([some (.p (ogD n R S)), x0, x1] ++ N)[i]? = some (some (.p (.int q.1)))) (hj : ([some (.p (ogD n R S)), x0, x1] ++ N)[j]? = some (some (.p (.int q.2)))) :
    eBin vIx (eBin vIx (eBin vIx (eVar 0) (eP (.int 1))) (eVar i)) (eVar j) ([some (.p (ogD n R S)), x0, x1] ++ N) dc = .ok (.p (.int (wq R q)), dc) := by
  obtain ⟨h0, h1, h2, h3⟩ := mem_every.mp h
  have ei : eVar i ([some (.p (ogD n R S)), x0, x1] ++ N) dc = .ok (.p (.int q.1), dc) := by rw [eVar_ap, hi]
  have ej : eVar j ([some (.p (ogD n R S)), x0, x1] ++ N) dc = .ok (.p (.int q.2), dc) := by rw [eVar_ap, hj]
  have e0 : eVar 0 ([some (.p (ogD n R S)), x0, x1] ++ N) dc = .ok (.p (ogD n R S), dc) := rfl
  have ew : atI ((R.getD q.1.toNat []).map PyData.int) q.2 = some (.int (wq R q)) := at_ints h2 h3
  simp only [eBin_ap, eP_ap, ei, ej, e0, and_ok, ix_t, at_1, at_R O h0 h1, Option.map_some, opt_some, ew]
end
/-! ### silent keys, the same sound -/
section
variable {n : Nat} {R : List (List Int)} {S : List (List (Int × Int))} {D Ks : List Nat} {dc : Dc}
def silT (R : List (List Int)) (S : List (List (Int × Int))) (D : List Nat) (k : Nat) : Bool := (((snd R S D [k]).length : Nat) : Int) == 0
theorem it1_org {ρ : Rho} (i : Nat) (hn : n ≤ 100) (h : ρ[i]? = some (some (.p (ogD n R S)))) : it1 (eBin vIx (eVar i) (eP (.int 0))) ρ dc = .ok ((List.range n).map (fun i : Nat => PyData.int i), dc) := by
  refine it1_n ?_ (by omega)
  rw [eBin_ap, eVar_ap, h]
  show ((Res.ok (Val.p (ogD n R S), dc)).andThen fun p => (eP (.int 0) ρ p.2).andThen fun q => Res.opt q.2 (vIx p.1 q.1)) = _
  rw [and_ok, eP_ap, and_ok, ix_t, at_0]
  rfl
def sameB (R : List (List Int)) (S : List (List (Int × Int))) (D D' : List Nat) (k : Nat) : Bool := decide (snd R S D [k] = snd R S D' [k])
theorem sh_pairs (l : List Pr2) : Sh 2 (.list (l.map pD)) := .lst (Sh.map Sh.pD)
end
/-! ### shared pipes -/
section
variable {n : Nat} {R : List (List Int)} {S : List (List (Int × Int))} {D Ks : List Nat} {dc : Dc}
def IntV (a : PD) : Prop := ∀ kv ∈ a, ∃ i : Int, kv.2 = .int i
theorem IntV.put {a : PD} {q : Pr2} {i : Int} (h : IntV a) : IntV (putP a q (.int i)) := fun kv hkv => by
  unfold putP at hkv
  split at hkv
  · obtain ⟨p, hp, e⟩ := List.mem_map.mp hkv
    split at e
    · rw [← e]; exact ⟨i, rfl⟩
    · rw [← e]; exact h p hp
  · rcases List.mem_append.mp hkv with z | z
    · exact h kv z
    · rw [List.mem_singleton.mp z]; exact ⟨i, rfl⟩
theorem IntV.val {a : PD} (h : IntV a) (q : Pr2) : valP a q = none ∨ ∃ i : Int, valP a q = some (.int i) := by
  induction a with
  | nil => exact .inl rfl
  | cons kv a ih =>
    rw [val_cons]
    split
    · obtain ⟨i, e⟩ := h kv List.mem_cons_self
      exact .inr ⟨i, by rw [e]⟩
    · exact ih fun x hx => h x (List.mem_cons_of_mem _ hx)
theorem dget2_ok {i : Nat} {fk : SE} {ρ : Rho} {a : PD} {q : Pr2} (h1 : ρ[i]? = some (some (.od a))) (h2 : fk ρ dc = .ok (.p (pD q), dc)) (h3 : IntV a) : eDGet2 (eVar i) fk (eP (.int 0)) ρ dc = .ok (.p (.int (cntV a q)), dc) := by
  unfold eDGet2
  rw [bind_ap, eVar_ap, h1]
  show (Res.ok (Val.od a, dc)).andThen _ = _
  rw [and_ok, bind_ap, sopt_ap]
  show (Res.ok (a, dc)).andThen _ = _
  rw [and_ok, bind_ap, h2, and_ok, bind_ap, eP_ap, and_ok, sopt_ap]
  show Res.opt dc (match valP a q with | some v => (datV v).map Val.p | none => some (Val.p (.int 0))) = _
  unfold cntV
  rcases h3.val q with e | ⟨j, e⟩
  · rw [e]; rfl
  · rw [e]; rfl
theorem dget_ok {i j : Nat} {ρ : Rho} {a : PD} {q : Pr2} {c : Int} (h1 : ρ[i]? = some (some (.od a))) (h2 : ρ[j]? = some (some (.p (pD q)))) (h3 : valP a q = some (.int c)) : eBin vDGet (eVar i) (eVar j) ρ dc = .ok (.p (.int c), dc) := by
  rw [eBin_ap, eVar_ap, h1]
  show (Res.ok (Val.od a, dc)).andThen _ = _
  rw [and_ok, eVar_ap, h2]
  show (Res.ok (Val.p (pD q), dc)).andThen _ = _
  rw [and_ok]
  show Res.opt dc ((valP a q).bind fun v => (datV v).map Val.p) = _
  rw [h3]
  rfl
def kvsC (R : List (List Int)) (S : List (List (Int × Int))) (D Ks : List Nat) : PD := (raw S D Ks).foldl (stepQ addC R) []
def cntR (R : List (List Int)) (S : List (List (Int × Int))) (D Ks : List Nat) (q : Pr2) : Nat := ((raw S D Ks).filter (hit R)).count q
theorem kvsC_facts (O : OkO n R S) (hD : ∀ i ∈ D, i < S.length) : (ksP (kvsC R S D Ks)).Nodup ∧ (∀ p, p ∈ ksP (kvsC R S D Ks) ↔ p ∈ snd R S D Ks) ∧ ∀ p ∈ snd R S D Ks, valP (kvsC R S D Ks) p = some (.int (cntR R S D Ks p : Nat)) := by
  unfold kvsC
  rw [fold_hit]
  obtain ⟨h1, h2⟩ := addC_facts ((raw S D Ks).filter (hit R)) [] (fun _ => 0) .nil (fun p => rfl)
  have h2' : ∀ p, valP (((raw S D Ks).filter (hit R)).foldl addC []) p = if cntR R S D Ks p = 0 then none else some (.int (cntR R S D Ks p : Nat)) := fun p => by
    have := h2 p
    rw [Nat.zero_add] at this
    exact this
  have pos : ∀ p, cntR R S D Ks p ≠ 0 ↔ p ∈ snd R S D Ks := fun p => by
    rw [← mem_hits O hD]
    unfold cntR
    exact ⟨fun h => List.count_pos_iff.mp (Nat.pos_of_ne_zero h), fun h => Nat.ne_of_gt (List.count_pos_iff.mpr h)⟩
  refine ⟨h1, fun p => ?_, fun p hp => ?_⟩
  · rw [← pos]
    have := val_none (kvs := ((raw S D Ks).filter (hit R)).foldl addC []) (k := p)
    rw [h2' p] at this
    constructor
    · intro hp hz
      rw [if_pos hz] at this
      exact this.mp rfl hp
    · intro hz
      rw [if_neg hz] at this
      rcases Classical.em (p ∈ ksP (((raw S D Ks).filter (hit R)).foldl addC [])) with c | c
      · exact c
      · have z := this.mpr c
        cases z
  · rw [h2' p, if_neg ((pos p).mpr hp)]
end
/-! ### the law's calls -/
section
variable {n : Nat} {R : List (List Int)} {S : List (List (Int × Int))} {D Ks : List Nat} {dc : Dc}
def calT (Ks : List Nat) (q p : Pr2) : Bool := (p.1 == q.1) && (Ks.map fun k : Nat => (k : Int)).any (· == q.2 - p.2)
def calN (S : List (List (Int × Int))) (D Ks : List Nat) (q : Pr2) : Nat := ((D.flatMap fun i => S.getD i []).filter (calT Ks q)).length
theorem count_keys (hK : Ks.Nodup) (q p : Pr2) : (Ks.map fun k : Nat => (p.1, (k : Int) + p.2)).count q = if calT Ks q p = true then 1 else 0 := by
  have inj : (Ks.map fun k : Nat => (p.1, (k : Int) + p.2)).Nodup := by
    refine List.pairwise_map.mpr (hK.imp fun {a b} h e => h ?_)
    have := congrArg Prod.snd e
    show a = b
    have e2 : (a : Int) + p.2 = (b : Int) + p.2 := this
    omega
  by_cases c : calT Ks q p = true
  · rw [if_pos c]
    unfold calT at c
    rw [Bool.and_eq_true, beq_iff_eq] at c
    obtain ⟨x, hx, e⟩ := List.any_eq_true.mp c.2
    obtain ⟨k, hk, rfl⟩ := List.mem_map.mp hx
    have e1 := beq_iff_eq.mp e
    have hm : q ∈ Ks.map fun k : Nat => (p.1, (k : Int) + p.2) := List.mem_map.mpr ⟨k, hk, Prod.ext c.1 (by show (k : Int) + p.2 = q.2; omega)⟩
    have h1 := List.count_pos_iff.mpr hm
    have h2 := List.nodup_iff_count.mp inj q
    omega
  · rw [if_neg c]
    refine List.count_eq_zero.mpr fun hm => c ?_
    obtain ⟨k, hk, e⟩ := List.mem_map.mp hm
    unfold calT
    rw [Bool.and_eq_true, beq_iff_eq, List.any_eq_true]
    have e1 := congrArg Prod.fst e
    have e2 := congrArg Prod.snd e
    have e1' : p.1 = q.1 := e1
    have e2' : (k : Int) + p.2 = q.2 := e2
    exact ⟨e1', (k : Int), List.mem_map.mpr ⟨k, hk, rfl⟩, beq_iff_eq.mpr (by omega)⟩
theorem count_parts (hK : Ks.Nodup) (q : Pr2) : ∀ l : List Pr2, (l.flatMap fun p => Ks.map fun k : Nat => (p.1, (k : Int) + p.2)).count q = (l.filter (calT Ks q)).length
  | [] => rfl
  | p :: l => by
    rw [List.flatMap_cons, List.count_append, count_keys hK, count_parts hK q l]
    by_cases c : calT Ks q p = true
    · rw [if_pos c, List.filter_cons_of_pos c, List.length_cons]
      omega
    · rw [if_neg c, List.filter_cons_of_neg c, Nat.zero_add]
theorem cnt_cal (hK : Ks.Nodup) {q : Pr2} (h : hit R q = true) : cntR R S D Ks q = calN S D Ks q := by
  unfold cntR calN
  rw [List.count_filter h, ← count_parts hK q]
  unfold raw
  rw [List.flatMap_assoc]
theorem shared_law (O : OkO n R S) (hD : ∀ i ∈ D, i < S.length) (hK : Ks.Nodup) : ((snd R S D Ks).filter fun q => decide ((1 : Int) < (cntR R S D Ks q : Nat))) = (every R).filter fun q => decide ((1 : Int) < (calN S D Ks q : Nat)) := by
  unfold snd
  rw [List.filter_filter]
  refine List.filter_congr fun q hq => ?_
  have hh : hit R q = true := by
    obtain ⟨h0, h1, _, _⟩ := mem_every.mp hq
    exact (hit_every h0 h1).mpr hq
  have ec := cnt_cal (S := S) (D := D) hK hh
  rw [← ec]
  by_cases c : inR S D Ks q = true
  · rw [c, Bool.and_true]
  · have hz : cntR R S D Ks q = 0 := by
      unfold cntR
      refine List.count_eq_zero.mpr fun hm => c ?_
      exact inR_iff.mpr (List.mem_filter.mp hm).1
    rw [hz]
    have : decide ((1 : Int) < ((0 : Nat) : Int)) = false := by decide
    rw [this, Bool.false_and]
end
/-! ### idle pipes -/
section
variable {n : Nat} {R : List (List Int)} {S : List (List (Int × Int))} {D Ks : List Nat} {dc : Dc}
theorem lstRg (m : Nat) (h : m ≤ 1000) : vLstRg (.p (.int m)) = some (.p (.list (natD (List.range m)))) := by
  show (if 0 ≤ (m : Int) ∧ (m : Int) ≤ 100000 then some (Val.p (.list (rgD m))) else none) = _
  rw [if_pos (by omega)]
  unfold rgD
  rw [Int.toNat_natCast]
theorem ext_ok {i : Nat} {a : SM (List Val)} {ρ : Rho} {ds es : List PyData} (h1 : ρ[i]? = some (some (.ol ds))) (h2 : a ρ dc = .ok ([.p (.list es)], dc)) (h3 : ds.length + es.length ≤ 100000) : sMutL i mExtend a ρ dc = .ok (.nx, ρ.set i (some (.ol (ds ++ es))), dc) := by
  unfold sMutL
  rw [h1]
  show SM.thn a _ ρ dc = _
  rw [thn_ap, h2, and_ok]
  show (match (if ds.length + es.length ≤ 100000 then some (ds ++ es) else none) with | some ds' => Res.ok (Fl.nx, ρ.set i (some (.ol ds')), dc) | none => .stuck) = _
  rw [if_pos h3]
def idl (R : List (List Int)) (S : List (List (Int × Int))) (n : Nat) (q : Pr2) : Bool := !decide (q ∈ snd R S (List.range S.length) (List.range n))
end
/-! ### lots -/
abbrev lotD (l : List Nat) : PyData := .tuple (natD l)
def rowsN : Nat → List (List Nat)
  | 0 => [[]]
  | m + 1 => rowsN m ++ (rowsN m).map (· ++ [m])
theorem rows_len : ∀ m, (rowsN m).length = 2 ^ m
  | 0 => rfl
  | m + 1 => by
    show (rowsN m ++ (rowsN m).map (· ++ [m])).length = _
    rw [List.length_append, List.length_map, rows_len m, Nat.pow_succ]
    omega
theorem OkL.mono {m k : Nat} {l : List Nat} (h : OkL m l) (hk : m ≤ k) : OkL k l := ⟨fun i hi => Nat.lt_of_lt_of_le (h.lt i hi) hk, h.up⟩
theorem mem_rows {l : List Nat} : ∀ {m : Nat}, l ∈ rowsN m ↔ OkL m l
  | 0 => by
    show l ∈ [[]] ↔ _
    rw [List.mem_singleton]
    constructor
    · rintro rfl; exact ⟨fun i hi => (by cases hi), .nil⟩
    · intro h
      cases l with
      | nil => rfl
      | cons a l => exact absurd (h.lt a List.mem_cons_self) (Nat.not_lt_zero _)
  | m + 1 => by
    show l ∈ rowsN m ++ (rowsN m).map (· ++ [m]) ↔ _
    rw [List.mem_append, List.mem_map]
    constructor
    · rintro (h | ⟨k, hk, rfl⟩)
      · exact (mem_rows.mp h).mono (Nat.le_succ _)
      · have h := mem_rows.mp hk
        refine ⟨fun i hi => ?_, List.pairwise_append.mpr ⟨h.up, List.pairwise_singleton _ _, fun a ha b hb => ?_⟩⟩
        · rcases List.mem_append.mp hi with z | z
          · have := h.lt i z; omega
          · rw [List.mem_singleton.mp z]; omega
        · rw [List.mem_singleton.mp hb]; exact h.lt a ha
    · intro h
      rcases Classical.em (m ∈ l) with c | c
      · right
        obtain ⟨a, b, e⟩ := List.append_of_mem c
        subst e
        have hp := List.pairwise_append.mp h.up
        have hb : b = [] := by
          cases b with
          | nil => rfl
          | cons x b =>
            have h1 := (List.pairwise_cons.mp hp.2.1).1 x List.mem_cons_self
            have h2 := h.lt x (by simp)
            omega
        subst hb
        refine ⟨a, mem_rows.mpr ⟨fun i hi => hp.2.2 i hi m List.mem_cons_self, hp.1⟩, rfl⟩
      · left
        refine mem_rows.mpr ⟨fun i hi => ?_, h.up⟩
        have h1 := h.lt i hi
        have h2 : i ≠ m := fun e => c (e ▸ hi)
        omega
def szD (l : List Nat) : PyData := .tuple [.int (l.length : Nat), lotD l]
def lots (m : Nat) : List (List Nat) := (rowsN m).mergeSort (PySem.W.dataLe false szD)
theorem mem_lots {m : Nat} {l : List Nat} : l ∈ lots m ↔ OkL m l := by
  unfold lots
  rw [List.mem_mergeSort, mem_rows]
theorem lots_len (m : Nat) : (lots m).length = 2 ^ m := by
  unfold lots
  rw [List.length_mergeSort, rows_len]
theorem alike_nat : ∀ a b : List Nat, PySem.W.alikeAll (natD a) (natD b) = true
  | [], _ => by cases ‹List Nat› <;> rfl
  | _ :: _, [] => rfl
  | x :: a, y :: b => by
    show (PySem.W.alike (.int x) (.int y) && PySem.W.alikeAll (natD a) (natD b)) = true
    rw [alike_nat a b]
    rfl
theorem dep_nat (l : List Nat) : PyData.depthAll (natD l) ≤ 0 := dep_all fun d hd => by
  obtain ⟨i, _, rfl⟩ := List.mem_map.mp hd
  exact Nat.le_refl _
theorem rows_sz (L : List (List Nat)) : rowsOk (L.map szD) = true := by
  unfold rowsOk
  rw [List.all_eq_true]
  intro d hd
  obtain ⟨l, _, rfl⟩ := List.mem_map.mp hd
  rw [Bool.and_eq_true, List.all_eq_true]
  refine ⟨?_, fun d' hd' => ?_⟩
  · unfold rowOk szD
    refine decide_eq_true ?_
    show max 0 (max (PyData.depthAll (natD l) + 1) 0) + 1 ≤ 40
    have := dep_nat l
    omega
  · obtain ⟨k, _, rfl⟩ := List.mem_map.mp hd'
    show (true && (PySem.W.alikeAll (natD l) (natD k) && true)) = true
    rw [alike_nat]
    rfl
theorem sort_sz (m : Nat) : sortD ((rowsN m).map szD) = (lots m).map szD := by
  unfold sortD lots
  exact (List.map_mergeSort (f := szD) (r := PySem.W.dataLe false szD) (s := PySem.W.dataLe false id) fun a _ b _ => rfl).symm
section
variable {dc : Dc}
end
/-! ### the least stops -/
section
variable {n : Nat} {R : List (List Int)} {S : List (List (Int × Int))} {D Ks : List Nat} {dc : Dc}
def smT (R : List (List Int)) (S : List (List (Int × Int))) (n : Nat) (D l : List Nat) : Bool := (List.range n).all (sameB R S l D)
theorem smT_self : smT R S n D D = true := by
  unfold smT
  rw [List.all_eq_true]
  intro k _
  exact decide_eq_true rfl
end
/-! ### the dice -/
structure DcOk (k : Nat) (dc : Dc) : Prop where
  a : 0 ≤ dc.2.1
  b : dc.2.1 < 2147480009
  c : 0 ≤ dc.2.2
  d : dc.2.2 ≤ k
theorem DcOk.mono {k j : Nat} {dc : Dc} (h : DcOk k dc) (l : k ≤ j) : DcOk j dc := ⟨h.a, h.b, h.c, by have := h.d; omega⟩
theorem log_small {i : Int} (h0 : 0 ≤ i) (h : i < 2 ^ 64) : i.natAbs.log2 < 64 := by
  by_cases z : i.natAbs = 0
  · rw [z]; decide
  · exact (Nat.log2_lt z).mpr (by omega)
theorem mul_ok {i j : Int} (h0 : 0 ≤ i) (h : i < 2 ^ 64) (h1 : 0 ≤ j) (h2 : j < 2 ^ 64) : vMul (.p (.int i)) (.p (.int j)) = some (.p (.int (i * j))) := by
  have a := log_small h0 h
  have b := log_small h1 h2
  show (if i.natAbs.log2 + j.natAbs.log2 < 1000000 then _ else _) = _
  rw [if_pos (by omega)]
theorem div_ok {i j : Int} (h1 : 0 < j) (h2 : j < 2 ^ 64) : vDiv (.p (.int i)) (.p (.int j)) = some (.p (.int (i / j))) := by
  have b := log_small (Int.le_of_lt h1) h2
  show (if 0 < j ∧ j.natAbs.log2 < 9000 then _ else _) = _
  rw [if_pos ⟨h1, by omega⟩]
theorem mod_ok {i j : Int} (h1 : 0 < j) : vMod (.p (.int i)) (.p (.int j)) = some (.p (.int (i % j))) := if_pos h1
theorem int_ok (i : Int) : vInt1 [.p (.int i)] = some (.p (.int i)) := rfl
theorem dice0 {ρ : Rho} {dc : Dc} {i : Nat} (k : Nat) (h : ρ[i]? = some (some .dice)) : eDice i k ρ dc = .ok (.p (.int (dcAt dc k)), dc) := by
  unfold eDice
  rw [h]
theorem sdice_ap {ρ : Rho} {dc : Dc} {i k : Nat} {f : SE} {v : Int} {dc' : Dc} (h : ρ[i]? = some (some .dice)) (hf : f ρ dc = .ok (.p (.int v), dc')) : sDice i k f ρ dc = .ok (.nx, ρ, dcSet dc' v k) := by
  unfold sDice
  rw [thn_ap, hf, and_ok]
  show (match ρ[i]? with | some (some .dice) => Res.ok (Fl.nx, ρ, dcSet dc' v k) | _ => .stuck) = _
  rw [h]
theorem roll_ok {k m : Nat} {dc : Dc} (h : DcOk k dc) (hk : k ≤ 100000) (h1 : 1 ≤ m) (h2 : m ≤ 1000) : ∃ (r : Nat) (dc' : Dc), fm__law_roll [.dice, .p (.int m)] dc = .ok (.p (.int r), dc') ∧ r < m ∧ DcOk (k + 1) dc' := by
  obtain ⟨d0, d1, d2⟩ := dc
  have ha : 0 ≤ d1 := h.a
  have hb : d1 < 2147480009 := h.b
  have hc : 0 ≤ d2 := h.c
  have hd : d2 ≤ k := h.d
  have mpos : (0 : Int) < (m : Int) := by omega
  by_cases c : 0 < d0
  · refine ⟨(d0 % (m : Int)).toNat, (d0 / (m : Int), d1, d2), ?_, ?_, ⟨ha, hb, hc, by show d2 ≤ ((k + 1 : Nat) : Int); omega⟩⟩
    · have q0 := Int.emod_nonneg d0 (Int.ne_of_gt mpos)
      rw [Int.toNat_of_nonneg q0]
      have e1 : tstV (eBin vGt (eDice 0 0) (eP (.int 0))) [some .dice, some (.p (.int m)), none] (d0, d1, d2) = .ok (true, (d0, d1, d2)) := by
        rw [tstV_ap, eBin_ap, dice0 0 rfl]
        show Res.ok (decide (0 < d0), _) = _
        rw [decide_eq_true c]
      have e2 : sSet 2 (eBin vMod (eCall vInt1 (aCons (eDice 0 0) aNil)) (eVar 1)) [some .dice, some (.p (.int m)), none] (d0, d1, d2) = .ok (.nx, [some .dice, some (.p (.int m)), some (.p (.int (d0 % m)))], (d0, d1, d2)) := by
        rw [sSet_ap, eBin_ap, eCall_ap, aCons_ap, dice0 0 rfl]
        show ((Res.opt (d0, d1, d2) (vMod (.p (.int d0)) (.p (.int m)))).andThen fun p => setK 2 _ p.2 p.1.frz) = _
        rw [mod_ok mpos]
        rfl
      have e3 : sDice 0 0 (eBin vDiv (eDice 0 0) (eVar 1)) [some .dice, some (.p (.int m)), some (.p (.int (d0 % m)))] (d0, d1, d2) = .ok (.nx, [some .dice, some (.p (.int m)), some (.p (.int (d0 % m)))], (d0 / m, d1, d2)) := by
        refine (sdice_ap (v := d0 / m) (dc' := (d0, d1, d2)) rfl ?_).trans rfl
        rw [eBin_ap, dice0 0 rfl]
        show Res.opt (d0, d1, d2) (vDiv (.p (.int d0)) (.p (.int m))) = _
        rw [div_ok mpos (by omega)]
        rfl
      unfold fm__law_roll sb__law_roll
      simp only [fnM_ap, seq_ap, sIf_ap, List.map_cons, List.map_nil, List.length_cons, List.length_nil, List.replicate, Nat.reduceAdd, Nat.reduceSub, List.cons_append, List.nil_append, and_ok, e1, if_true, e2, e3]
      rfl
    · have := Int.emod_lt_of_pos d0 mpos
      have q0 := Int.emod_nonneg d0 (Int.ne_of_gt mpos)
      omega
  · have e2k : (d2 + 1) * (d2 + 1) < 2 ^ 64 := by
      have : (d2 + 1) * (d2 + 1) ≤ 100001 * 100001 := Int.mul_le_mul (by omega) (by omega) (by omega) (by omega)
      omega
    have e2n : 0 ≤ (d2 + 1) * (d2 + 1) := Int.mul_nonneg (by omega) (by omega)
    obtain ⟨x, hx⟩ : ∃ x, x = (d1 * 52501 + (d2 + 1) * (d2 + 1) * 1009 + 77) % 2147480009 := ⟨_, rfl⟩
    have x0 : 0 ≤ x := by rw [hx]; exact Int.emod_nonneg _ (by decide)
    have x1 : x < 2147480009 := by rw [hx]; exact Int.emod_lt_of_pos _ (by decide)
    refine ⟨(x / 211 % (m : Int)).toNat, (d0, x, d2 + 1), ?_, ?_, ⟨x0, x1, by show 0 ≤ d2 + 1; omega, by show d2 + 1 ≤ ((k + 1 : Nat) : Int); omega⟩⟩
    · have q0 := Int.emod_nonneg (x / 211) (Int.ne_of_gt mpos)
      rw [Int.toNat_of_nonneg q0]
      have e1 : tstV (eBin vGt (eDice 0 0) (eP (.int 0))) [some .dice, some (.p (.int m)), none] (d0, d1, d2) = .ok (false, (d0, d1, d2)) := by
        rw [tstV_ap, eBin_ap, dice0 0 rfl]
        show Res.ok (decide (0 < d0), _) = _
        rw [decide_eq_false c]
      have e2 : sDice 0 2 (eBin vAdd (eDice 0 2) (eP (.int 1))) [some .dice, some (.p (.int m)), none] (d0, d1, d2) = .ok (.nx, [some .dice, some (.p (.int m)), none], (d0, d1, d2 + 1)) := by
        refine (sdice_ap (v := d2 + 1) (dc' := (d0, d1, d2)) rfl ?_).trans rfl
        rw [eBin_ap, dice0 2 rfl]
        rfl
      have e3 : sDice 0 1 (eBin vMod (eCall vInt1 (aCons (eBin vAdd (eBin vAdd (eBin vMul (eDice 0 1) (eP (.int 52501))) (eBin vMul (eBin vMul (eDice 0 2) (eDice 0 2)) (eP (.int 1009)))) (eP (.int 77))) aNil)) (eP (.int 2147480009))) [some .dice, some (.p (.int m)), none] (d0, d1, d2 + 1) = .ok (.nx, [some .dice, some (.p (.int m)), none], (d0, x, d2 + 1)) := by
        refine (sdice_ap (v := x) (dc' := (d0, d1, d2 + 1)) rfl ?_).trans rfl
        have m1 : vMul (.p (.int d1)) (.p (.int 52501)) = some (.p (.int (d1 * 52501))) := mul_ok ha (by omega) (by decide) (by decide)
        have m2 : vMul (.p (.int (d2 + 1))) (.p (.int (d2 + 1))) = some (.p (.int ((d2 + 1) * (d2 + 1)))) := mul_ok (by omega) (by omega) (by omega) (by omega)
        have m3 : vMul (.p (.int ((d2 + 1) * (d2 + 1)))) (.p (.int 1009)) = some (.p (.int ((d2 + 1) * (d2 + 1) * 1009))) := mul_ok e2n e2k (by decide) (by decide)
        have d1e : eDice 0 1 [some .dice, some (.p (.int m)), none] (d0, d1, d2 + 1) = .ok (.p (.int d1), (d0, d1, d2 + 1)) := dice0 1 rfl
        have d2e : eDice 0 2 [some .dice, some (.p (.int m)), none] (d0, d1, d2 + 1) = .ok (.p (.int (d2 + 1)), (d0, d1, d2 + 1)) := dice0 2 rfl
        have m4 : vMod (.p (.int (d1 * 52501 + (d2 + 1) * (d2 + 1) * 1009 + 77))) (.p (.int 2147480009)) = some (.p (.int x)) := by rw [mod_ok (by decide), ← hx]
        simp only [eBin_ap, eCall_ap, aCons_ap, aNil_ap, eP_ap, d1e, d2e, and_ok, m1, m2, m3, opt_some, vAdd, int_ok, m4]
      have e4 : eBin vMod (eCall vInt1 (aCons (eBin vDiv (eDice 0 1) (eP (.int 211))) aNil)) (eVar 1) [some .dice, some (.p (.int m)), none] (d0, x, d2 + 1) = .ok (.p (.int (x / 211 % m)), (d0, x, d2 + 1)) := by
        have d1e : eDice 0 1 [some .dice, some (.p (.int m)), none] (d0, x, d2 + 1) = .ok (.p (.int x), (d0, x, d2 + 1)) := dice0 1 rfl
        have m1 : vDiv (.p (.int x)) (.p (.int 211)) = some (.p (.int (x / 211))) := div_ok (by decide) (by decide)
        simp only [eBin_ap, eCall_ap, aCons_ap, aNil_ap, eP_ap, eVar_ap, List.getElem?_cons_zero, List.getElem?_cons_succ, d1e, and_ok, m1, opt_some, int_ok, mod_ok mpos]
      unfold fm__law_roll sb__law_roll
      simp only [fnM_ap, seq_ap, sIf_ap, sNx_ap, List.map_cons, List.map_nil, List.length_cons, List.length_nil, List.replicate, Nat.reduceAdd, Nat.reduceSub, List.cons_append, List.nil_append, and_ok, e1, Bool.false_eq_true, if_false, e2, e3, sRet_ap, e4]
      rfl
    · have := Int.emod_lt_of_pos (x / 211) mpos
      have q0 := Int.emod_nonneg (x / 211) (Int.ne_of_gt mpos)
      omega
/-! ### drawn organs and lots -/
section
variable {k : Nat} {dc : Dc}
abbrev eRoll (m : Int) : SE := eApp 2 fm__law_roll (aCons (eVar 0) (aCons (eP (.int m)) aNil))
theorem eroll {ρ : Rho} {m : Nat} {mi : Int} (hmi : mi = (m : Nat)) (h0 : ρ[0]? = some (some .dice)) (h : DcOk k dc) (hk : k ≤ 100000) (h1 : 1 ≤ m) (h2 : m ≤ 1000) : ∃ (r : Nat) (dc' : Dc), eRoll mi ρ dc = .ok (.p (.int r), dc') ∧ r < m ∧ DcOk (k + 1) dc' := by
  subst hmi
  obtain ⟨r, dc', e, h3, h4⟩ := roll_ok h hk h1 h2
  refine ⟨r, dc', ?_, h3, h4⟩
  unfold eRoll
  rw [eApp_ap, aCons_ap, eVar_ap, h0]
  show ((Res.ok (Val.dice, dc)).andThen fun p => (aCons (eP (.int m)) aNil ρ p.2).andThen fun q => Res.ok (p.1 :: q.1, q.2)).andThen _ = _
  rw [and_ok]
  show argB 2 fm__law_roll dc [.dice, .p (.int m)] = _
  rw [argB_d2, e]
theorem paired_map {α : Type} {f : PyData → PyData → Prop} {g : α → PyData} {P : α → Prop} (hf : ∀ x d, f x d → ∃ a, d = g a ∧ P a) : ∀ {ys ds : List PyData}, Paired f ys ds → ∃ l : List α, ds = l.map g ∧ (∀ a ∈ l, P a) ∧ l.length = ys.length
  | _, _, .nil => ⟨[], rfl, (fun a h => by cases h), rfl⟩
  | _, _, .cons h t => by
    obtain ⟨l, e, hl, hn⟩ := paired_map hf t
    obtain ⟨a, ea, ha⟩ := hf _ _ h
    exact ⟨a :: l, by rw [e, ea]; rfl, fun b hb => (List.mem_cons.mp hb).elim (fun z => z ▸ ha) (hl b), by rw [List.length_cons, List.length_cons, hn]⟩
/-- a comprehension over 1 + roll(m) turns, each of which rolls at most c times; no test -/
theorem comp_roll {α : Type} {g : α → PyData} {P : α → Prop} {ρ : Rho} {i m c : Nat} {mi : Int} {elt : SE} (hmi : mi = (m : Nat)) (h0 : ρ[0]? = some (some .dice)) (hi : i ≠ 0) (h : DcOk k dc) (hk : k + 1 + c * m ≤ 100000) (h1 : 1 ≤ m) (h2 : m ≤ 1000)
    (he : ∀ (x : Nat) (j : Nat) (dc : Dc), j ≤ k + 1 + c * m → DcOk j dc → ∃ a dc', elt ((ρ.set i none).set i (some (.p (.int x)))) dc = .ok (.p (g a), dc') ∧ P a ∧ DcOk (j + c) dc') :
    ∃ (l : List α) (dc' : Dc), eComp (it1 (eBin vAdd (eP (.int 1)) (eRoll mi))) (tgN i) [i] (SM.ret true) elt ρ dc = .ok (.p (.list (l.map g)), dc') ∧ 1 ≤ l.length ∧ l.length ≤ m ∧ (∀ a ∈ l, P a) ∧ DcOk (k + 1 + c * m) dc' := by
  subst hmi
  obtain ⟨r, dc1, e1, hr, hd1⟩ := eroll (mi := (m : Nat)) rfl h0 h (by omega) h1 h2
  have eI : it1 (eBin vAdd (eP (.int 1)) (eRoll m)) ρ dc = .ok ((List.range (r + 1)).map (fun i : Nat => PyData.int i), dc1) := by
    have ea : eBin vAdd (eP (.int 1)) (eRoll m) ρ dc = .ok (.p (.int ((r + 1 : Nat) : Int)), dc1) := by
      rw [eBin_ap, eP_ap, and_ok, e1, and_ok]
      show Res.ok (Val.p (.int (1 + (r : Int))), dc1) = _
      have : (1 + (r : Int)) = ((r + 1 : Nat) : Int) := by omega
      rw [this]
    unfold it1
    rw [bind_ap, ea, and_ok]
    have := it1_n (a := eP (.int ((r + 1 : Nat) : Int))) (ρ := ρ) (dc := dc1) rfl (show r + 1 ≤ 100000 by omega)
    unfold it1 at this
    rw [bind_ap, eP_ap, and_ok] at this
    exact this
  obtain ⟨ys, ds, dc', e2, hsub, hp, hd⟩ := compD_dice (tg := tgN i) (test := SM.ret true) (elt := elt) (f := fun _ d => ∃ a, d = g a ∧ P a) (ρ := wipeR ρ [i]) (I := DcOk) (c := c) (B := k + 1 + c * m) ((List.range (r + 1)).map (fun i : Nat => PyData.int i)) [] (k + 1) dc1 (fun x hx j dcj hj hI => by
    obtain ⟨z, _, rfl⟩ := List.mem_map.mp hx
    obtain ⟨a, dc2, e3, hP, hI2⟩ := he z j dcj hj hI
    exact ⟨_, rfl, dcj, .inl ⟨rfl, g a, dc2, e3, ⟨a, rfl, hP⟩, hI2⟩⟩) (by
      rw [List.length_map, List.length_range]
      have : c * (r + 1) ≤ c * m := Nat.mul_le_mul_left c (by omega)
      omega) hd1
  have hlen : ds.length = r + 1 := by
    -- each turn gives one item
    have key : ∀ (xs acc : List PyData) (dc0 : Dc) (res : List PyData) (dc9 : Dc), compD (tgN i) (SM.ret true) elt xs acc (wipeR ρ [i]) dc0 = .ok (.p (.list res), dc9) → res.length = acc.length + xs.length := by
      intro xs
      induction xs with
      | nil => intro acc dc0 res dc9 hh; unfold compD at hh; cases hh; rfl
      | cons x xs ih =>
        intro acc dc0 res dc9 hh
        unfold compD at hh
        rw [tgN_ap] at hh
        simp only [ret_ap] at hh
        split at hh
        · rename_i d dc2 _
          have := ih _ _ _ _ hh
          rw [this, List.length_append, List.length_cons, List.length_cons, List.length_nil]
          omega
        · cases hh
    have := key _ _ _ _ _ e2
    rw [List.nil_append, List.length_map, List.length_range, List.length_nil] at this
    omega
  obtain ⟨l, rfl, hl, hn⟩ := paired_map (fun x d h => h) hp
  rw [List.length_map] at hlen
  refine ⟨l, dc', ?_, by omega, by omega, hl, hd.mono ?_⟩
  · rw [eComp_ap, eI, and_ok]
    show (if ((List.range (r + 1)).map (fun i : Nat => PyData.int i)).length ≤ 100000 then _ else _) = _
    rw [if_pos (by rw [List.length_map, List.length_range]; omega), e2, List.nil_append]
  · rw [List.length_map, List.length_range]
    have : c * (r + 1) ≤ c * m := Nat.mul_le_mul_left c (by omega)
    omega
end
section
variable {k : Nat} {dc : Dc}
theorem ranks_ok (h : DcOk k dc) (hk : k ≤ 10000) (x1 x2 x3 x4 x5 x6 x7 : Option Val) : ∃ (R : List (List Int)) (dc' : Dc), eCall vTuple1 (aCons (eComp (it1 (eBin vAdd (eP (.int 1)) (eRoll 2))) (tgN 5) [5] (SM.ret true) (eCall vTuple1 (aCons (eComp (it1 (eBin vAdd (eP (.int 1)) (eRoll 6))) (tgN 7) [7] (SM.ret true) (eRoll 6)) aNil))) aNil) [some .dice, x1, x2, x3, x4, x5, x6, x7] dc =
    .ok (.p (.tuple (R.map rankD)), dc') ∧ 1 ≤ R.length ∧ R.length ≤ 2 ∧ (∀ r ∈ R, 1 ≤ r.length ∧ r.length ≤ 6 ∧ ∀ w ∈ r, 0 ≤ w ∧ w ≤ 5) ∧ DcOk (k + 15) dc' := by
  obtain ⟨R, dc', e, h1, h2, h3, h4⟩ := comp_roll (g := rankD) (P := fun r : List Int => 1 ≤ r.length ∧ r.length ≤ 6 ∧ ∀ w ∈ r, 0 ≤ w ∧ w ≤ 5) (ρ := [some .dice, x1, x2, x3, x4, x5, x6, x7]) (i := 5) (m := 2) (c := 7) (k := k) (dc := dc)
    (elt := eCall vTuple1 (aCons (eComp (it1 (eBin vAdd (eP (.int 1)) (eRoll 6))) (tgN 7) [7] (SM.ret true) (eRoll 6)) aNil)) (mi := 2) rfl rfl (by decide) h (by omega) (by decide) (by decide) (fun x j dcj hj hI => by
      obtain ⟨l, dc2, e2, g1, g2, g3, g4⟩ := comp_roll (g := PyData.int) (P := fun w : Int => 0 ≤ w ∧ w ≤ 5) (ρ := [some .dice, x1, x2, x3, x4, some (.p (.int x)), x6, x7]) (i := 7) (m := 6) (c := 1) (k := j) (dc := dcj) (elt := eRoll 6) (mi := 6) rfl rfl (by decide) hI (by omega) (by decide) (by decide) (fun y j2 dcj2 hj2 hI2 => by
        obtain ⟨r, dc3, e3, hr, hd3⟩ := eroll (ρ := [some .dice, x1, x2, x3, x4, some (.p (.int x)), x6, some (.p (.int y))]) (m := 6) (mi := 6) rfl rfl hI2 (by omega) (by decide) (by decide)
        exact ⟨(r : Int), dc3, e3, ⟨by omega, by omega⟩, hd3⟩)
      refine ⟨l, dc2, ?_, ⟨g1, g2, g3⟩, g4.mono (by omega)⟩
      show eCall vTuple1 (aCons (eComp _ _ _ _ _) aNil) [some .dice, x1, x2, x3, x4, some (.p (.int x)), x6, x7] dcj = _
      rw [eCall_ap, aCons_ap, e2]
      rfl)
  refine ⟨R, dc', ?_, h1, h2, h3, h4.mono (by omega)⟩
  rw [eCall_ap, aCons_ap]
  have e' := e
  rw [e']
  rfl
end
section
variable {k : Nat} {dc : Dc} {n : Int} {R : List (List Int)}
def GoodS (R : List (List Int)) (S : List (List (Int × Int))) : Prop := ∀ s ∈ S, 1 ≤ s.length ∧ s.length ≤ 3 ∧ SrtP s ∧ ∀ p ∈ s, 0 ≤ p.1 ∧ p.1 < R.length ∧ -20 ≤ p.2 ∧ p.2 ≤ 20
theorem nub_len : ∀ ps : List Pr2, (nubP ps).length ≤ ps.length
  | [] => Nat.le_refl _
  | p :: ps => by
    unfold nubP
    have := nub_len ps
    split
    · rw [List.length_cons]; omega
    · rw [List.length_cons, List.length_cons]; omega
theorem nub_pos {ps : List Pr2} (h : 1 ≤ ps.length) : 1 ≤ (nubP ps).length := by
  cases ps with
  | nil => cases h
  | cons p ps =>
    have : p ∈ nubP (p :: ps) := mem_nub.mpr List.mem_cons_self
    exact List.length_pos_of_mem this
theorem pairsOf_map : ∀ ps : List Pr2, pairsOf (ps.map pD) = some ps
  | [] => rfl
  | p :: ps => by
    show (pairOf (pD p)).bind (fun q => (pairsOf (ps.map pD)).map (q :: ·)) = _
    rw [pairsOf_map ps]
    rfl
theorem srt_nub (ps : List Pr2) : SrtP ((nubP ps).mergeSort pLe) := by
  have h1 := List.pairwise_mergeSort pLe_trans pLe_total (nubP ps)
  have h2 : ((nubP ps).mergeSort pLe).Nodup := (List.mergeSort_perm (nubP ps) pLe).nodup_iff.mpr (nub_nodup ps)
  refine (h1.and h2).imp fun {a b} ⟨h, ne⟩ => ?_
  unfold pLe at h
  rw [decide_eq_true_eq] at h
  rcases h with h | ⟨h, h'⟩
  · exact .inl h
  · refine .inr ⟨h, ?_⟩
    rcases Int.lt_or_eq_of_le h' with z | z
    · exact z
    · exact absurd (Prod.ext h z) ne
theorem sortSet_ok {ps : List Pr2} (h : ps.length < 64) : vSortSet (.p (.list (ps.map pD))) = some (.p (.list (((nubP ps).mergeSort pLe).map pD))) := by
  show ((pairsOf (ps.map pD)).bind fun ps => if ps.length < 64 then some (Val.p (.list (((nubP ps).mergeSort pLe).map pD))) else none) = _
  rw [pairsOf_map]
  show (if ps.length < 64 then some (Val.p (.list (((nubP ps).mergeSort pLe).map pD))) else none) = _
  rw [if_pos h]
abbrev bStop : SS := sSeq (sSet 4 (eComp (it1 (eBin vAdd (eP (.int 1)) (eRoll 2))) (tgN 6) [6] (SM.ret true) (eTup (aCons (eApp 2 fm__law_roll (aCons (eVar 0) (aCons (eCall vLen (aCons (eVar 1) aNil)) aNil))) (aCons (eBin vSub (eRoll 6) (eP (.int 2))) aNil))))) (sMutL 2 mAppend (aCons (eCall vTuple1 (aCons (eUn vSortSet (eVar 4)) aNil)) aNil))
theorem bStop_ok (hR1 : 1 ≤ R.length) (hR2 : R.length ≤ 4) {S : List (List (Int × Int))} (hS : GoodS R S) (hl : S.length ≤ 10) (h : DcOk k dc) (hk : k ≤ 10000) (x3 x4 x5 x6 x7 : Option Val) : ∃ (s : List Pr2) (y4 : Option Val) (dc' : Dc),
    bStop [some .dice, some (.p (.tuple (R.map rankD))), some (.ol (S.map stopD)), x3, x4, x5, x6, x7] dc = .ok (.nx, [some .dice, some (.p (.tuple (R.map rankD))), some (.ol ((S ++ [s]).map stopD)), x3, y4, x5, x6, x7], dc') ∧ GoodS R (S ++ [s]) ∧ DcOk (k + 5) dc' := by
  obtain ⟨ps, dc1, e, h1, h2, h3, h4⟩ := comp_roll (g := pD) (P := fun p : Pr2 => 0 ≤ p.1 ∧ p.1 < R.length ∧ -20 ≤ p.2 ∧ p.2 ≤ 20) (ρ := [some .dice, some (.p (.tuple (R.map rankD))), some (.ol (S.map stopD)), x3, x4, x5, x6, x7]) (i := 6) (m := 2) (c := 2) (k := k) (dc := dc)
    (elt := eTup (aCons (eApp 2 fm__law_roll (aCons (eVar 0) (aCons (eCall vLen (aCons (eVar 1) aNil)) aNil))) (aCons (eBin vSub (eRoll 6) (eP (.int 2))) aNil))) (mi := 2) rfl rfl (by decide) h (by omega) (by decide) (by decide) (fun x j dcj hj hI => by
      obtain ⟨r1, dc2, e2, hr1, hd2⟩ := roll_ok (m := R.length) hI (by omega) hR1 (by omega)
      obtain ⟨r2, dc3, e3, hr2, hd3⟩ := eroll (ρ := [some .dice, some (.p (.tuple (R.map rankD))), some (.ol (S.map stopD)), x3, x4, x5, some (.p (.int x)), x7]) (m := 6) (mi := 6) rfl rfl hd2 (by omega) (by decide) (by decide)
      refine ⟨((r1 : Int), (r2 : Int) - 2), dc3, ?_, ⟨by show (0 : Int) ≤ (r1 : Int); omega, by show (r1 : Int) < _; omega, by show -20 ≤ (r2 : Int) - 2; omega, by show (r2 : Int) - 2 ≤ 20; omega⟩, hd3⟩
      show eTup _ [some .dice, some (.p (.tuple (R.map rankD))), some (.ol (S.map stopD)), x3, x4, x5, some (.p (.int x)), x7] dcj = _
      have e4 : eApp 2 fm__law_roll (aCons (eVar 0) (aCons (eCall vLen (aCons (eVar 1) aNil)) aNil)) [some .dice, some (.p (.tuple (R.map rankD))), some (.ol (S.map stopD)), x3, x4, x5, some (.p (.int x)), x7] dcj = .ok (.p (.int r1), dc2) := by
        simp only [eApp_ap, aCons_ap, eVar_ap, List.getElem?_cons_zero, List.getElem?_cons_succ, eCall_ap, aNil_ap, and_ok, len_t, opt_some, List.length_map, argB_d2, e2]
      have e5 : vSub (.p (.int r2)) (.p (.int 2)) = some (.p (.int ((r2 : Int) - 2))) := rfl
      unfold eTup
      rw [eCall_ap, aCons_ap, e4, and_ok, aCons_ap, eBin_ap, e3, and_ok, eP_ap, and_ok, e5, opt_some, and_ok, aNil_ap, and_ok, and_ok, and_ok]
      rfl)
  refine ⟨(nubP ps).mergeSort pLe, some (.p (.list (ps.map pD))), dc1, ?_, fun s hs => ?_, h4.mono (by omega)⟩
  · have e6 : eCall vTuple1 (aCons (eUn vSortSet (eVar 4)) aNil) [some .dice, some (.p (.tuple (R.map rankD))), some (.ol (S.map stopD)), x3, some (.p (.list (ps.map pD))), x5, x6, x7] dc1 = .ok (.p (stopD ((nubP ps).mergeSort pLe)), dc1) := by
      rw [eCall_ap, aCons_ap, eUn_ap, eVar_ap]
      show (((Res.opt dc1 (vSortSet (.p (.list (ps.map pD))))).andThen _)).andThen _ = _
      rw [sortSet_ok (by omega)]
      rfl
    unfold bStop
    rw [seq_ap, sSet_ap, e, and_ok]
    show (setK 4 _ dc1 (Val.p (.list (ps.map pD))).frz).andThen _ = _
    show (Res.ok (Fl.nx, [some .dice, some (.p (.tuple (R.map rankD))), some (.ol (S.map stopD)), x3, some (.p (.list (ps.map pD))), x5, x6, x7], dc1)).andThen _ = _
    rw [and_ok]
    show sMutL 2 mAppend _ [some .dice, some (.p (.tuple (R.map rankD))), some (.ol (S.map stopD)), x3, some (.p (.list (ps.map pD))), x5, x6, x7] dc1 = _
    rw [app_ok (d := stopD ((nubP ps).mergeSort pLe)) rfl (by rw [aCons_ap, e6]; rfl) (by rw [List.length_map]; omega), List.map_append]
    rfl
  · rcases List.mem_append.mp hs with z | z
    · exact hS s z
    · rw [List.mem_singleton.mp z]
      refine ⟨by rw [List.length_mergeSort]; exact nub_pos h1, ?_, srt_nub ps, fun p hp => h3 p (mem_nub.mp (List.mem_mergeSort.mp hp))⟩
      rw [List.length_mergeSort]
      have := nub_len ps
      omega
end
section
variable {k : Nat} {dc : Dc}
theorem it1_roll {ρ : Rho} {m : Nat} {mi : Int} (hmi : mi = (m : Nat)) (h0 : ρ[0]? = some (some .dice)) (h : DcOk k dc) (hk : k ≤ 100000) (h1 : 1 ≤ m) (h2 : m ≤ 1000) : ∃ (r : Nat) (dc' : Dc), it1 (eRoll mi) ρ dc = .ok ((List.range r).map (fun i : Nat => PyData.int i), dc') ∧ r < m ∧ DcOk (k + 1) dc' := by
  obtain ⟨r, dc', e, h3, h4⟩ := eroll hmi h0 h hk h1 h2
  refine ⟨r, dc', ?_, h3, h4⟩
  have := it1_n (a := eP (.int (r : Nat))) (ρ := ρ) (dc := dc') rfl (show r ≤ 100000 by omega)
  unfold it1 at this ⊢
  rw [bind_ap, e, and_ok]
  rw [bind_ap, eP_ap, and_ok] at this
  exact this
end
section
variable {k : Nat} {dc : Dc}
theorem paired_eq : ∀ {ys ds : List PyData}, Paired (fun x d => d = x) ys ds → ds = ys
  | _, _, .nil => rfl
  | _, _, .cons h t => by rw [h, paired_eq t]
theorem pick_ok {ds : List PyData} (h : DcOk k dc) (hk : k ≤ 50000) (h1 : 1 ≤ ds.length) (h2 : ds.length ≤ 1000) : ∃ (d : PyData) (dc' : Dc), fm__law_pick [.dice, .p (.list ds)] dc = .ok (.p d, dc') ∧ d ∈ ds ∧ DcOk (k + 1) dc' := by
  obtain ⟨r, dc', e, hr, hd⟩ := roll_ok (m := ds.length) h (by omega) h1 h2
  refine ⟨ds[r], dc', ?_, List.getElem_mem hr, hd⟩
  unfold fm__law_pick sb__law_pick
  simp only [and_ok, and_exn, and_stuck, opt_some, bind_ap, thn_ap, ret_ap, sopt_ap, eP_ap, eVar_ap, eBin_ap, eUn_ap, eChain_ap, chK_t, chK_f, aNil_ap, aCons_ap, eCall_ap, tstV_ap, asB_b, tAnd_ap, tOr_ap, tNot_ap, eAnd_ap, eOr_ap, eNot_ap, eIf_ap, eApp_ap, eAppK_ap, argB_p1, argB_p2, argB_p3, argB_p4, argB_p5, argB_d1, argB_d2, argB_s2, argB_f2, eAll_ap, eComp_ap, itS_ap, itF_ap, frD, tgN_ap, tgT_ap, seq_ap, sNx_ap, sIf_ap, sRet_ap, rtK_some, sSet_ap, setK_some, sFor_ap, unp_ap, unK_2, unK_3, fnK_rt, fnK_nx, fnK_exn, fnM_ap, List.getElem?_cons_zero, List.getElem?_cons_succ, List.map_cons, List.map_nil, List.length_cons, List.length_nil, List.length_map, List.replicate, List.append_nil, List.cons_append, List.nil_append, Option.map_some, Option.map_none, Option.bind_some, Option.bind_none, if_true, if_false, ite_true, ite_false, Bool.false_eq_true, Bool.true_eq_false, reduceCtorEq, isi_t, len_t, len_l, vLe, vLt, vGt, vGe, vAdd, vSub, sq_t, sq_l, wipeR, Val.ice, Val.frz, datas, Bool.not_true, Bool.not_false, setAll, List.set_cons_zero, List.set_cons_succ, List.set_nil, Nat.reduceAdd, Nat.reduceSub, Nat.reduceLeDiff, decide_true, argB_d2, e, ix_l, at_nat hr]
end
/-! ### wrong arguments -/
def oneD : PyData := .tuple [.int 1]
def badL : List PyData := [.none, .tuple [], .tuple [.int 0, .tuple [oneD], .tuple []], .tuple [.int 13, .tuple [oneD], .tuple []], .tuple [.int 1, .tuple [], .tuple []], .tuple [.int 1, .tuple [.tuple []], .tuple []], .tuple [.int 1, .tuple [.tuple [.int 101]], .tuple []], .tuple [.int 1, .list [oneD], .tuple []],
  .tuple [.int 1, .tuple [oneD], .tuple [.tuple []]], .tuple [.int 1, .tuple [oneD], .tuple [.tuple [.tuple [.int 1, .int 0]]]], .tuple [.int 1, .tuple [oneD], .tuple [.tuple [.tuple [.int 0, .int 21]]]], .tuple [.int 1, .tuple [oneD], .tuple [.tuple [.tuple [.int 0, .int 1], .tuple [.int 0, .int 0]]]]]
def oddL : List PyData := [.none, .list [.int 0], .tuple [.int 99], .tuple [.int (-1)], .tuple [.int 0, .int 0], .tuple [.bool true]]
theorem told_eq {ρ : Rho} {dc : Dc} {f : SE} {n : Str} (h : f (seen ρ) dc = .exn n) : eTold f ρ dc = .ok (.p (.str n), dc) := by
  unfold eTold
  rw [h]
/-! ### one turn of the law -/
section
variable {n : Nat} {R : List (List Int)} {S : List (List (Int × Int))} {D Ks D' : List Nat} {dc : Dc}
theorem vIx_S : vIx (.p (ogD n R S)) (.p (.int 2)) = some (.p (.tuple (S.map stopD))) := by rw [ix_t, at_2]; rfl
theorem vIx_n : vIx (.p (ogD n R S)) (.p (.int 0)) = some (.p (.int n)) := by rw [ix_t, at_0]; rfl
abbrev eLenS2 (i : Nat) : SE := eCall vLen (aCons (eBin vIx (eVar i) (eP (.int 2))) aNil)
theorem lenS_eq {ρ : Rho} {i : Nat} (h : ρ[i]? = some (some (.p (ogD n R S)))) : eLenS2 i ρ dc = .ok (.p (.int (S.length : Nat)), dc) := by
  unfold eLenS2
  rw [eCall_ap, aCons_ap, eBin_ap, eVar_ap, h]
  show (((((Res.ok (Val.p (ogD n R S), dc)).andThen _)).andThen _)).andThen _ = _
  rw [and_ok, eP_ap, and_ok, vIx_S, opt_some, and_ok, aNil_ap, and_ok, and_ok, len_t, opt_some, List.length_map]
abbrev eN0 (i : Nat) : SE := eBin vIx (eVar i) (eP (.int 0))
theorem n0_eq {ρ : Rho} {i : Nat} (h : ρ[i]? = some (some (.p (ogD n R S)))) : eN0 i ρ dc = .ok (.p (.int n), dc) := by
  unfold eN0
  rw [eBin_ap, eVar_ap, h]
  show (Res.ok (Val.p (ogD n R S), dc)).andThen _ = _
  rw [and_ok, eP_ap, and_ok, vIx_n, opt_some]
theorem sh_ints (k : Nat) (l : List Nat) : Sh (k + 1) (.tuple (natD l)) := .tup (Sh.map fun x => .int k _)
theorem sh_tpairs (l : List Pr2) : Sh 2 (.tuple (l.map pD)) := .tup (Sh.map Sh.pD)
end
section
variable {n : Nat} {R : List (List Int)} {S : List (List (Int × Int))} {D Ks D' : List Nat} {dc : Dc}
end
/-! ### the refusals -/
section
variable {n : Nat} {R : List (List Int)} {S : List (List (Int × Int))} {D Ks D' : List Nat} {dc : Dc}
end
/-! ### the dice that a script gives; the law -/
section
variable {dc : Dc}
theorem cut_ints (ns : List Int) (hi : Int) : ∃ l : List Int, DL.cutD (ns.map .int) none (some hi) = l.map .int ∧ l.length ≤ ns.length := by
  unfold DL.cutD
  refine ⟨(ns.drop _).take _, by rw [← List.map_drop, ← List.map_take], ?_⟩
  rw [List.length_take, List.length_drop]
  omega
theorem dice_ok {ns : List Int} {i : Nat} (hn : ns.length ≤ 63) (hi : i ≤ 4) : ∃ a b : Int, fm__law_dice [.scr ns, .p (.int i)] dc = .ok (.ol [.int a, .int b, .int 0], dc) ∧ 0 ≤ b ∧ b < 2147480009 := by
  -- the cell's own number
  have m0 : vMul (.p (.int 733)) (.p (.int i)) = some (.p (.int (733 * (i : Int)))) := mul_ok (by decide) (by decide) (by omega) (by omega)
  have m1 : vMul (.p (.int 7907)) (.p (.int i)) = some (.p (.int (7907 * (i : Int)))) := mul_ok (by decide) (by decide) (by omega) (by omega)
  obtain ⟨own, e1⟩ : ∃ own : Int, eIf (tstV (eBin vLt (eVar 1) (eLenS 0))) (eIxS 0 (eVar 1)) (eBin vAdd (eBin vMul (eP (.int 733)) (eVar 1)) (eP (.int 29))) [some (.scr ns), some (.p (.int i)), none, none, none] dc = .ok (.p (.int own), dc) := by
    have et : tstV (eBin vLt (eVar 1) (eLenS 0)) [some (.scr ns), some (.p (.int i)), none, none, none] dc = .ok (decide ((i : Int) < ns.length), dc) := rfl
    rw [eIf_ap, et, and_ok]
    by_cases c : (i : Int) < ns.length
    · refine ⟨ns[i]'(by omega), ?_⟩
      rw [decide_eq_true c]
      simp only [if_true]
      unfold eIxS
      simp only [List.getElem?_cons_zero]
      rw [bind_ap, eVar_ap]
      show SM.opt ((atI ns (i : Int)).map fun n => Val.p (.int n)) [some (.scr ns), some (.p (.int i)), none, none, none] dc = _
      rw [sopt_ap, at_nat (by omega)]
      rfl
    · refine ⟨733 * (i : Int) + 29, ?_⟩
      rw [decide_eq_false c]
      simp only [Bool.false_eq_true, if_false, eBin_ap, eP_ap, eVar_ap, List.getElem?_cons_zero, List.getElem?_cons_succ, and_ok, m0, opt_some, vAdd]
  obtain ⟨l, hl, hll⟩ := cut_ints ns 6
  have e2 : sSet 3 (eBin vAdd (eP (.int 980027)) (eBin vMul (eP (.int 7907)) (eVar 1))) [some (.scr ns), some (.p (.int i)), some (.p (.int own)), none, none] dc = .ok (.nx, [some (.scr ns), some (.p (.int i)), some (.p (.int own)), some (.p (.int (980027 + 7907 * (i : Int)))), none], dc) := by
    simp only [sSet_ap, eBin_ap, eP_ap, eVar_ap, List.getElem?_cons_zero, List.getElem?_cons_succ, and_ok, m1, opt_some, vAdd, Val.frz, setK_some, List.set_cons_zero, List.set_cons_succ]
  have L := forD_pre (dc := dc) (tg := tgN 4) (g := PyData.int) (l := l ++ [own]) (body := sSet 3 (eBin vMod (eCall vInt1 (aCons (eBin vAdd (eBin vMul (eVar 3) (eP (.int 48271))) (eBin vMod (eCall vInt1 (aCons (eVar 4) aNil)) (eP (.int 2147480009)))) aNil)) (eP (.int 2147480009))))
    (I := fun d ρ => ∃ (x : Int) (x4 : Option Val), 0 ≤ x ∧ x < 2147480009 ∧ ρ = [some (.scr ns), some (.p (.int i)), some (.p (.int own)), some (.p (.int x)), x4]) (fun d z r e ρ ⟨x, x4, h0, h1, hρ⟩ => by
      subst hρ
      have q1 : vMul (.p (.int x)) (.p (.int 48271)) = some (.p (.int (x * 48271))) := mul_ok h0 (by omega) (by decide) (by decide)
      have q2 : vMod (.p (.int z)) (.p (.int 2147480009)) = some (.p (.int (z % 2147480009))) := mod_ok (by decide)
      have q3 : ∀ y : Int, vMod (.p (.int y)) (.p (.int 2147480009)) = some (.p (.int (y % 2147480009))) := fun y => mod_ok (by decide)
      refine ⟨[some (.scr ns), some (.p (.int i)), some (.p (.int own)), some (.p (.int x)), some (.p (.int z))], [some (.scr ns), some (.p (.int i)), some (.p (.int own)), some (.p (.int ((x * 48271 + z % 2147480009) % 2147480009))), some (.p (.int z))], rfl, ?_, _, some (.p (.int z)), Int.emod_nonneg _ (by decide), Int.emod_lt_of_pos _ (by decide), rfl⟩
      simp only [sSet_ap, eBin_ap, eCall_ap, aCons_ap, aNil_ap, eP_ap, eVar_ap, List.getElem?_cons_zero, List.getElem?_cons_succ, and_ok, int_ok, q1, q2, q3, opt_some, vAdd, Val.frz, setK_some, List.set_cons_zero, List.set_cons_succ]) [some (.scr ns), some (.p (.int i)), some (.p (.int own)), some (.p (.int (980027 + 7907 * (i : Int)))), none] ⟨_, none, by omega, by omega, rfl⟩
  obtain ⟨ρ', e3, x, x4, h0, h1, rfl⟩ := L
  have eF : itF (eBin vAdd (eCutS 0 6) (eLst (aCons (eVar 2) aNil))) [some (.scr ns), some (.p (.int i)), some (.p (.int own)), some (.p (.int (980027 + 7907 * (i : Int)))), none] dc = .ok ((l ++ [own]).map PyData.int, dc) := by
    rw [itF_ap, eBin_ap]
    show (((Res.ok (Val.p (.list (DL.cutD (ns.map .int) none (some 6))), dc)).andThen fun p => (Res.ok (Val.p (.list [.int own]), dc)).andThen fun q => Res.opt q.2 (vAdd p.1 q.1))).andThen _ = _
    rw [hl, and_ok, and_ok, add_l _ _ (by rw [List.length_map]; show l.length + 1 ≤ _; omega), opt_some, and_ok, List.map_append]
    rfl
  obtain ⟨a, e4⟩ : ∃ a : Int, eIf (tOrD (tstV (eBin vLt (eVar 2) (eP (.int 0)))) (tstV (eBin vGe (eVar 2) (eBin vPow (eP (.int 10)) (eP (.int 16)))))) (eCall vAbs (aCons (eVar 2) aNil)) (eP (.int 0)) [some (.scr ns), some (.p (.int i)), some (.p (.int own)), some (.p (.int x)), x4] dc = .ok (.p (.int a), dc) := by
    have pw : vPow (.p (.int 10)) (.p (.int 16)) = some (.p (.int 10000000000000000)) := by
      show (if 0 ≤ (16 : Int) ∧ (16 : Int) ≤ 1000000 ∧ (10 : Int).natAbs < 2 ^ 64 then some (Val.p (.int ((10 : Int) ^ (16 : Int).toNat))) else none) = _
      rw [if_pos (by decide)]
      rfl
    have et : ∃ c : Bool, tOrD (tstV (eBin vLt (eVar 2) (eP (.int 0)))) (tstV (eBin vGe (eVar 2) (eBin vPow (eP (.int 10)) (eP (.int 16))))) [some (.scr ns), some (.p (.int i)), some (.p (.int own)), some (.p (.int x)), x4] dc = .ok (c, dc) := by
      rw [tOr_ap]
      by_cases c1 : own < 0
      · have : decide (own < 0) = true := decide_eq_true c1
        exact ⟨true, by simp only [tstV_ap, eBin_ap, eP_ap, eVar_ap, List.getElem?_cons_zero, List.getElem?_cons_succ, and_ok, vLt, opt_some, asB_b, this, if_true]⟩
      · have : decide (own < 0) = false := decide_eq_false c1
        exact ⟨decide (10000000000000000 ≤ own), by simp only [tstV_ap, eBin_ap, eP_ap, eVar_ap, List.getElem?_cons_zero, List.getElem?_cons_succ, and_ok, vLt, vGe, pw, opt_some, asB_b, this, Bool.false_eq_true, if_false]⟩
    obtain ⟨c, et⟩ := et
    rw [eIf_ap, et, and_ok]
    cases c with
    | true => exact ⟨_, rfl⟩
    | false => exact ⟨0, rfl⟩
  refine ⟨a, x, ?_, h0, h1⟩
  have e5 : sSet 2 (eIf (tstV (eBin vLt (eVar 1) (eLenS 0))) (eIxS 0 (eVar 1)) (eBin vAdd (eBin vMul (eP (.int 733)) (eVar 1)) (eP (.int 29)))) [some (.scr ns), some (.p (.int i)), none, none, none] dc = .ok (.nx, [some (.scr ns), some (.p (.int i)), some (.p (.int own)), none, none], dc) := by
    rw [sSet_ap, e1]
    rfl
  unfold fm__law_dice sb__law_dice
  simp only [fnM_ap, List.map_cons, List.map_nil, List.length_cons, List.length_nil, List.replicate, Nat.reduceAdd, Nat.reduceSub, List.cons_append, List.nil_append, seq_ap, e5, and_ok, e2, sFor_ap, eF]
  rw [e3]
  simp only [and_ok]
  show fnK (SM.thn _ sRetLk _ dc) = _
  rw [thn_ap, aCons_ap, e4]
  rfl
end
section
variable {k : Nat} {dc : Dc}
theorem odd_pick {ρ : Rho} (h0 : ρ[0]? = some (some .dice)) (h : DcOk k dc) (hk : k ≤ 40000) : ∃ (d : PyData) (dc' : Dc), eApp 2 fm__law_pick (aCons (eVar 0) (aCons (eLst (aCons (eP .none) (aCons (eLst (aCons (eP (.int 0)) aNil)) (aCons (eTup (aCons (eP (.int 99)) aNil)) (aCons (eTup (aCons (eUn vNeg (eP (.int 1))) aNil)) (aCons (eTup (aCons (eP (.int 0)) (aCons (eP (.int 0)) aNil))) (aCons (eTup (aCons (eP (.bool true)) aNil)) aNil))))))) aNil)) ρ dc = .ok (.p d, dc') ∧ d ∈ oddL ∧ DcOk (k + 1) dc' := by
  obtain ⟨d, dc', e, hd, h2⟩ := pick_ok (ds := oddL) h (by omega) (by decide) (by decide)
  refine ⟨d, dc', ?_, hd, h2⟩
  have e0 : eVar 0 ρ dc = .ok (.dice, dc) := by rw [eVar_ap, h0]
  rw [eApp_ap, aCons_ap, e0, and_ok]
  show argB 2 fm__law_pick dc [.dice, .p (.list oddL)] = _
  rw [argB_d2, e]
end
section
variable {n : Nat} {R : List (List Int)} {S : List (List (Int × Int))} {D Ks D' : List Nat} {dc : Dc}
def dueL : List PyData := [.str "organ", .str "drawn", .str "keys", .str "keys", .str "drawn", .str "drawn", .str "organ", .str "other", .str "organ"]
end
section
variable {k : Nat} {dc : Dc}
end


end K02

set_option maxHeartbeats 4000000
namespace K02
open PySem PySem.Spec PyProof.Rows L2 DL
/-! ### sizes -/
def Bd (k : Nat) (i : Nat) : Prop := i < 2 ^ k
theorem Bd.mono {k l i : Nat} (h : Bd k i) (hl : k ≤ l) : Bd l i := Nat.lt_of_lt_of_le h (Nat.pow_le_pow_right (by omega) hl)
theorem Bd.le {k i j : Nat} (h : Bd k i) (hl : j ≤ i) : Bd k j := Nat.lt_of_le_of_lt hl h
theorem Bd.mul {k l i j : Nat} (h : Bd k i) (h2 : Bd l j) : Bd (k + l) (i * j) := by
  unfold Bd at *
  rw [Nat.pow_add]
  exact Nat.mul_lt_mul'' h h2
theorem Bd.log {k i : Nat} (hk : 0 < k) (h : Bd k i) : i.log2 < k := by
  by_cases z : i = 0
  · rw [z]
    have : Nat.log2 0 = 0 := by decide
    omega
  · exact (Nat.log2_lt z).mpr h
theorem mul_Z {i j : Int} {k l : Nat} (hk : 0 < k) (hl : 0 < l) (h : Bd k i.natAbs) (h2 : Bd l j.natAbs) (hkl : k + l ≤ 100000) : vMul (.p (.int i)) (.p (.int j)) = some (.p (.int (i * j))) := by
  have a := h.log hk
  have b := h2.log hl
  show (if i.natAbs.log2 + j.natAbs.log2 < 1000000 then _ else _) = _
  rw [if_pos (by omega)]
theorem mul_N {i j : Nat} {k l : Nat} (hk : 0 < k) (hl : 0 < l) (h : Bd k i) (h2 : Bd l j) (hkl : k + l ≤ 100000) : vMul (.p (.int (i : Nat))) (.p (.int (j : Nat))) = some (.p (.int ((i * j : Nat) : Int))) := mul_Z (i := (i : Int)) (j := (j : Int)) hk hl h h2 hkl
theorem div_N {i : Int} {j : Nat} {k : Nat} (hk : 0 < k) (hj : 0 < j) (h : Bd k j) (hk2 : k ≤ 8000) : vDiv (.p (.int i)) (.p (.int (j : Nat))) = some (.p (.int (i / (j : Int)))) := by
  have b := h.log hk
  show (if 0 < (j : Int) ∧ (j : Int).natAbs.log2 < 9000 then _ else _) = _
  rw [if_pos ⟨by omega, by show j.log2 < 9000; omega⟩]
theorem two_B : Bd 2 2 := by unfold Bd; decide
/-! ### the greatest common divisor -/
section
variable {dc : Dc}
theorem spar_ok {i j : Nat} {f : SM (List Val)} {ρ : Rho} {dc dc' : Dc} {a b : PyData} (h : f ρ dc = .ok ([.p a, .p b], dc')) : sPar i j f ρ dc = .ok (.nx, (ρ.set i (some (.p a))).set j (some (.p b)), dc') := by
  unfold sPar
  rw [thn_ap, h]
  rfl
theorem abs_Z (a : Int) : vAbs [.p (.int a)] = some (.p (.int (a.natAbs : Nat))) := by
  have e : (if a < 0 then -a else a) = (a.natAbs : Int) := by split <;> omega
  show some (Val.p (.int (if a < 0 then -a else a))) = _
  rw [e]
theorem mod_N {x y : Nat} (hy : 0 < y) : vMod (.p (.int (x : Nat))) (.p (.int (y : Nat))) = some (.p (.int ((x % y : Nat) : Int))) := (mod_ok (by omega)).trans rfl
abbrev bGcd : SS := sPar 0 1 (aCons (eVar 1) (aCons (eBin vMod (eVar 0) (eVar 1)) aNil))
theorem bGcd_ok {x y : Nat} (hy : 0 < y) (N : Rho) : bGcd (some (.p (.int (x : Nat))) :: some (.p (.int (y : Nat))) :: N) dc = .ok (.nx, some (.p (.int (y : Nat))) :: some (.p (.int ((x % y : Nat) : Int))) :: N, dc) := by
  refine (spar_ok (dc' := dc) (a := .int (y : Nat)) (b := .int ((x % y : Nat) : Int)) ?_).trans rfl
  have e := mod_N (x := x) hy
  simp only [aCons_ap, aNil_ap, eBin_ap, eVar_ap, List.getElem?_cons_zero, List.getElem?_cons_succ, and_ok, e, opt_some]
theorem gcd_step (x y : Nat) : Nat.gcd y (x % y) = Nat.gcd x y := by
  rw [Nat.gcd_comm y (x % y), ← Nat.gcd_rec, Nat.gcd_comm]
theorem whG : ∀ (n x y : Nat), y < n → whD (tstV (eBin vGt (eVar 1) (eP (.int 0)))) bGcd n [some (.p (.int (x : Nat))), some (.p (.int (y : Nat)))] dc = .ok (.nx, [some (.p (.int (Nat.gcd x y : Nat))), some (.p (.int 0))], dc)
  | 0, _, y, h => absurd h (Nat.not_lt_zero _)
  | n + 1, x, y, h => by
    have et : tstV (eBin vGt (eVar 1) (eP (.int 0))) [some (.p (.int (x : Nat))), some (.p (.int (y : Nat)))] dc = .ok (decide ((0 : Int) < (y : Nat)), dc) := rfl
    unfold whD
    simp only [et]
    by_cases c : y = 0
    · subst c
      rw [Nat.gcd_zero_right]
      rfl
    · have hy : 0 < y := by omega
      have d : decide ((0 : Int) < (y : Nat)) = true := decide_eq_true (by omega)
      have hm := Nat.mod_lt x hy
      rw [d]
      simp only [bGcd_ok hy]
      rw [whG n y (x % y) (by omega), gcd_step]
theorem common_eq (a b : Int) : fm_common [.p (.int a), .p (.int b)] dc = .ok (.p (.int (Int.gcd a b : Nat)), dc) := by
  have e1 := abs_Z a
  have e2 := abs_Z b
  have ew : sWh (fuelI 1) (tstV (eBin vGt (eVar 1) (eP (.int 0)))) bGcd [some (.p (.int (a.natAbs : Nat))), some (.p (.int (b.natAbs : Nat)))] dc = .ok (.nx, [some (.p (.int (Nat.gcd a.natAbs b.natAbs : Nat))), some (.p (.int 0))], dc) := whG (b.natAbs + 1) a.natAbs b.natAbs (Nat.lt_succ_self _)
  unfold fm_common sb_common
  simp only [fnM_ap, seq_ap, sSet_ap, eCall_ap, aCons_ap, aNil_ap, eVar_ap, List.map_cons, List.map_nil, List.length_cons, List.length_nil, List.replicate, Nat.reduceAdd, Nat.reduceSub, List.cons_append, List.nil_append, List.append_nil, List.getElem?_cons_zero, List.getElem?_cons_succ, and_ok, e1, e2, opt_some, Val.frz, setK_some, List.set_cons_zero, List.set_cons_succ]
  unfold bGcd at ew
  rw [ew]
  rfl
abbrev qD (p : Nat × Nat) : PyData := pD ((p.1 : Int), (p.2 : Int))
/-- in lowest terms -/
def frN (a b : Nat) : Nat × Nat := (a / Nat.gcd a b, b / Nat.gcd a b)
def frZ (a : Int) (b : Nat) : Int × Int := (a / ((Nat.gcd a.natAbs b : Nat) : Int), ((b / Nat.gcd a.natAbs b : Nat) : Int))
theorem gcd_pos {a b : Nat} (hb : 0 < b) : 0 < Nat.gcd a b := Nat.gcd_pos_of_pos_right _ hb
theorem gcd_le {a b : Nat} (hb : 0 < b) : Nat.gcd a b ≤ b := Nat.gcd_le_right _ hb
theorem ratio_Z {a : Int} {b k : Nat} (hb : 0 < b) (hk : 0 < k) (hB : Bd k b) (hk2 : k ≤ 8000) : fm_ratio [.p (.int a), .p (.int (b : Nat))] dc = .ok (.p (pD (frZ a b)), dc) := by
  have e1 := common_eq (dc := dc) a (b : Int)
  have g0 : 0 < Nat.gcd a.natAbs b := gcd_pos hb
  have gB : Bd k (Nat.gcd a.natAbs b) := hB.le (gcd_le hb)
  have eg : Int.gcd a (b : Int) = Nat.gcd a.natAbs b := rfl
  rw [eg] at e1
  have d1 := div_N (i := a) hk g0 gB hk2
  have d2 := div_N (i := (b : Int)) hk g0 gB hk2
  unfold fm_ratio sb_ratio
  simp only [and_ok, and_exn, and_stuck, opt_some, bind_ap, thn_ap, ret_ap, sopt_ap, eP_ap, eVar_ap, eBin_ap, eUn_ap, eChain_ap, chK_t, chK_f, aNil_ap, aCons_ap, eCall_ap, tstV_ap, asB_b, tAnd_ap, tOr_ap, tNot_ap, eAnd_ap, eOr_ap, eNot_ap, eIf_ap, eApp_ap, eAppK_ap, argB_p1, argB_p2, argB_p3, argB_p4, argB_p5, argB_d1, argB_d2, argB_s2, argB_f2, eAll_ap, eComp_ap, itS_ap, itF_ap, frD, tgN_ap, tgT_ap, seq_ap, sNx_ap, sIf_ap, sRet_ap, rtK_some, sSet_ap, setK_some, sFor_ap, unp_ap, unK_2, unK_3, fnK_rt, fnK_nx, fnK_exn, fnM_ap, List.getElem?_cons_zero, List.getElem?_cons_succ, List.map_cons, List.map_nil, List.length_cons, List.length_nil, List.length_map, List.replicate, List.append_nil, List.cons_append, List.nil_append, Option.map_some, Option.map_none, Option.bind_some, Option.bind_none, if_true, if_false, ite_true, ite_false, Bool.false_eq_true, Bool.true_eq_false, reduceCtorEq, isi_t, len_t, len_l, vLe, vLt, vGt, vGe, vAdd, vSub, sq_t, sq_l, wipeR, Val.ice, Val.frz, datas, Bool.not_true, Bool.not_false, setAll, List.set_cons_zero, List.set_cons_succ, List.set_nil, Nat.reduceAdd, Nat.reduceSub, Nat.reduceLeDiff, decide_true, e1, d1, d2, vTup]
  rfl
theorem ratio_N {a b k : Nat} (hb : 0 < b) (hk : 0 < k) (hB : Bd k b) (hk2 : k ≤ 8000) : fm_ratio [.p (.int (a : Nat)), .p (.int (b : Nat))] dc = .ok (.p (qD (frN a b)), dc) := ratio_Z (a := (a : Int)) hb hk hB hk2
/-! ### the law's own -/
abbrev bLg : SS := sSeq (sIf (tstV (eBin vEq (eVar 1) (eP (.int 0)))) sBk sNx) bGcd
theorem lg_stop {x : Nat} {x2 : Option Val} (d : PyData) (l : List PyData) : forD (tgN 2) bLg (d :: l) [some (.p (.int (x : Nat))), some (.p (.int 0)), x2] dc = .ok (.nx, [some (.p (.int (x : Nat))), some (.p (.int 0)), some (.p d)], dc) := rfl
theorem lg_go {x y : Nat} (hy : 0 < y) {x2 : Option Val} (d : PyData) (l : List PyData) : forD (tgN 2) bLg (d :: l) [some (.p (.int (x : Nat))), some (.p (.int (y : Nat))), x2] dc = forD (tgN 2) bLg l [some (.p (.int (y : Nat))), some (.p (.int ((x % y : Nat) : Int))), some (.p d)] dc := by
  have et : tstV (eBin vEq (eVar 1) (eP (.int 0))) [some (.p (.int (x : Nat))), some (.p (.int (y : Nat))), some (.p d)] dc = .ok (((y : Int) == 0), dc) := rfl
  have eb : ((y : Int) == 0) = false := by
    rw [Bool.eq_false_iff, ne_eq, beq_iff_eq]
    omega
  have es : bLg [some (.p (.int (x : Nat))), some (.p (.int (y : Nat))), some (.p d)] dc = .ok (.nx, [some (.p (.int (y : Nat))), some (.p (.int ((x % y : Nat) : Int))), some (.p d)], dc) := by
    unfold bLg
    rw [seq_ap, sIf_ap, et, and_ok, eb]
    simp only [Bool.false_eq_true, if_false, sNx_ap, and_ok]
    exact bGcd_ok hy _
  conv => lhs; unfold forD
  show (match bLg [some (Val.p (.int (x : Nat))), some (.p (.int (y : Nat))), some (.p d)] dc with | .ok (.nx, ρ2, dc2) => _ | .ok (.bk, ρ2, dc2) => _ | r => r) = _
  rw [es]
theorem lg_run : ∀ (k : Nat) (l : List PyData) (x y : Nat) (x2 : Option Val), y < 2 ^ k → 2 * k + 1 ≤ l.length → ∃ z2, forD (tgN 2) bLg l [some (.p (.int (x : Nat))), some (.p (.int (y : Nat))), x2] dc = .ok (.nx, [some (.p (.int (Nat.gcd x y : Nat))), some (.p (.int 0)), z2], dc) := by
  intro k
  induction k with
  | zero =>
    intro l x y x2 hy hl
    have : y = 0 := by omega
    subst this
    cases l with
    | nil => cases hl
    | cons d l => rw [Nat.gcd_zero_right]; exact ⟨_, lg_stop d l⟩
  | succ k ih =>
    intro l x y x2 hy hl
    by_cases c : y = 0
    · subst c
      cases l with
      | nil => cases hl
      | cons d l => rw [Nat.gcd_zero_right]; exact ⟨_, lg_stop d l⟩
    · have y0 : 0 < y := by omega
      match l, hl with
      | d1 :: d2 :: l, hl =>
        rw [List.length_cons, List.length_cons] at hl
        rw [lg_go y0 d1]
        have z1 := Nat.mod_lt x y0
        rw [← gcd_step x y]
        by_cases c2 : x % y = 0
        · rw [c2, Nat.gcd_zero_right]
          exact ⟨_, lg_stop d2 l⟩
        · have z0 : 0 < x % y := by omega
          rw [lg_go z0 d2, ← gcd_step y (x % y)]
          refine ih l (x % y) (y % (x % y)) _ ?_ (by omega)
          have w1 := Nat.mod_lt y z0
          have w2 : y % (x % y) = (y - x % y) % (x % y) := Nat.mod_eq_sub_mod (by omega)
          have w3 := Nat.mod_le (y - x % y) (x % y)
          rw [Nat.pow_succ] at hy
          omega
theorem lgcd_eq (a : Int) {b : Nat} (hB : Bd 190 b) : fm__law_gcd [.p (.int a), .p (.int (b : Nat))] dc = .ok (.p (.int (Nat.gcd a.natAbs b : Nat)), dc) := by
  obtain ⟨z2, e⟩ := lg_run (dc := dc) 190 ((List.range 400).map fun i : Nat => PyData.int i) a.natAbs b none hB (by rw [List.length_map, List.length_range]; omega)
  have e1 := abs_Z a
  have e2 := abs_Z (b : Int)
  have e2' : vAbs [.p (.int (b : Nat))] = some (.p (.int (b : Nat))) := e2
  have ep : sPar 0 1 (aCons (eCall vAbs (aCons (eVar 0) aNil)) (aCons (eCall vAbs (aCons (eVar 1) aNil)) aNil)) [some (.p (.int a)), some (.p (.int (b : Nat))), none] dc = .ok (.nx, [some (.p (.int (a.natAbs : Nat))), some (.p (.int (b : Nat))), none], dc) := by
    refine (spar_ok (dc' := dc) (a := .int (a.natAbs : Nat)) (b := .int (b : Nat)) ?_).trans rfl
    simp only [aCons_ap, aNil_ap, eCall_ap, eVar_ap, List.getElem?_cons_zero, List.getElem?_cons_succ, and_ok, e1, e2', opt_some]
  have eI : it1 (eP (.int 400)) [some (.p (.int (a.natAbs : Nat))), some (.p (.int (b : Nat))), none] dc = .ok ((List.range 400).map (fun i : Nat => PyData.int i), dc) := it1_n (n := 400) rfl (by decide)
  unfold fm__law_gcd sb__law_gcd
  unfold bLg bGcd at e
  simp only [fnM_ap, seq_ap, List.map_cons, List.map_nil, List.length_cons, List.length_nil, List.replicate, Nat.reduceAdd, Nat.reduceSub, List.cons_append, List.nil_append, ep, and_ok, sFor_ap, eI]
  rw [e]
  rfl
theorem lfrac_Z {a : Int} {b : Nat} (hb : 0 < b) (hB : Bd 190 b) : fm__law_frac [.p (.int a), .p (.int (b : Nat))] dc = .ok (.p (pD (frZ a b)), dc) := by
  have e1 := lgcd_eq (dc := dc) a hB
  have g0 : 0 < Nat.gcd a.natAbs b := gcd_pos hb
  have gB : Bd 190 (Nat.gcd a.natAbs b) := hB.le (gcd_le hb)
  have d1 := div_N (i := a) (by decide) g0 gB (by decide)
  have d2 := div_N (i := (b : Int)) (by decide) g0 gB (by decide)
  unfold fm__law_frac sb__law_frac
  simp only [and_ok, and_exn, and_stuck, opt_some, bind_ap, thn_ap, ret_ap, sopt_ap, eP_ap, eVar_ap, eBin_ap, eUn_ap, eChain_ap, chK_t, chK_f, aNil_ap, aCons_ap, eCall_ap, tstV_ap, asB_b, tAnd_ap, tOr_ap, tNot_ap, eAnd_ap, eOr_ap, eNot_ap, eIf_ap, eApp_ap, eAppK_ap, argB_p1, argB_p2, argB_p3, argB_p4, argB_p5, argB_d1, argB_d2, argB_s2, argB_f2, eAll_ap, eComp_ap, itS_ap, itF_ap, frD, tgN_ap, tgT_ap, seq_ap, sNx_ap, sIf_ap, sRet_ap, rtK_some, sSet_ap, setK_some, sFor_ap, unp_ap, unK_2, unK_3, fnK_rt, fnK_nx, fnK_exn, fnM_ap, List.getElem?_cons_zero, List.getElem?_cons_succ, List.map_cons, List.map_nil, List.length_cons, List.length_nil, List.length_map, List.replicate, List.append_nil, List.cons_append, List.nil_append, Option.map_some, Option.map_none, Option.bind_some, Option.bind_none, if_true, if_false, ite_true, ite_false, Bool.false_eq_true, Bool.true_eq_false, reduceCtorEq, isi_t, len_t, len_l, vLe, vLt, vGt, vGe, vAdd, vSub, sq_t, sq_l, wipeR, Val.ice, Val.frz, datas, Bool.not_true, Bool.not_false, setAll, List.set_cons_zero, List.set_cons_succ, List.set_nil, Nat.reduceAdd, Nat.reduceSub, Nat.reduceLeDiff, decide_true, e1, d1, d2, vTup]
  rfl
theorem lfrac_N {a b : Nat} (hb : 0 < b) (hB : Bd 190 b) : fm__law_frac [.p (.int (a : Nat)), .p (.int (b : Nat))] dc = .ok (.p (qD (frN a b)), dc) := lfrac_Z (a := (a : Int)) hb hB
end

end K02

set_option maxHeartbeats 4000000
namespace K02
open PySem PySem.Spec PyProof.Rows L2 DL
/-! ### brought into the octave -/
section
variable {dc : Dc}
def upN : Nat → Nat → Nat → Nat
  | 0, a, _ => a
  | n + 1, a, b => if a < b then upN n (a * 2) b else a
def dnN : Nat → Nat → Nat → Nat
  | 0, _, b => b
  | n + 1, a, b => if b * 2 ≤ a then dnN n a (b * 2) else b
theorem upN_facts : ∀ (n a b : Nat), 0 < a → b ≤ a + n → ∃ i, upN n a b = a * 2 ^ i ∧ b ≤ upN n a b ∧ (upN n a b = a ∨ upN n a b < 2 * b)
  | 0, a, b, h0, h => ⟨0, by show a = a * 1; omega, by show b ≤ a; omega, .inl rfl⟩
  | n + 1, a, b, h0, h => by
    unfold upN
    by_cases c : a < b
    · rw [if_pos c]
      obtain ⟨i, e1, e2, e3⟩ := upN_facts n (a * 2) b (by omega) (by omega)
      refine ⟨i + 1, ?_, e2, .inr ?_⟩
      · rw [e1, Nat.pow_succ, Nat.mul_assoc, Nat.mul_comm 2]
      · rcases e3 with e3 | e3
        · omega
        · exact e3
    · rw [if_neg c]
      exact ⟨0, by omega, by omega, .inl rfl⟩
theorem dnN_facts : ∀ (n a b : Nat), 0 < b → a < 2 * b + n → ∃ j, dnN n a b = b * 2 ^ j ∧ a < 2 * dnN n a b ∧ (dnN n a b = b ∨ dnN n a b ≤ a)
  | 0, a, b, h0, h => ⟨0, by show b = b * 1; omega, by show a < 2 * b; omega, .inl rfl⟩
  | n + 1, a, b, h0, h => by
    unfold dnN
    by_cases c : b * 2 ≤ a
    · rw [if_pos c]
      obtain ⟨i, e1, e2, e3⟩ := dnN_facts n a (b * 2) (by omega) (by omega)
      refine ⟨i + 1, ?_, e2, .inr ?_⟩
      · rw [e1, Nat.pow_succ, Nat.mul_assoc, Nat.mul_comm 2]
      · rcases e3 with e3 | e3
        · omega
        · exact e3
    · rw [if_neg c]
      exact ⟨0, by omega, by omega, .inl rfl⟩
/-- the loops of the def; i, j: the slots -/
theorem up_run {body : SS} {c : SM Bool} {mk : Nat → Nat → Rho} {k : Nat} (hc : ∀ a b, c (mk a b) dc = .ok (decide (a < b), dc)) (hb : ∀ a b, Bd k a → body (mk a b) dc = .ok (.nx, mk (a * 2) b, dc)) :
    ∀ (n a b : Nat), 0 < a → b ≤ a + n → Bd k b → whD c body (n + 1) (mk a b) dc = .ok (.nx, mk (upN n a b) b, dc) := by
  intro n
  induction n with
  | zero =>
    intro a b h0 h hB
    unfold whD
    rw [hc, decide_eq_false (by omega)]
    rfl
  | succ n ih =>
    intro a b h0 h hB
    unfold whD upN
    rw [hc]
    by_cases z : a < b
    · rw [decide_eq_true z, if_pos z]
      simp only [hb a b (hB.le (by omega))]
      exact ih (a * 2) b (by omega) (by omega) hB
    · rw [decide_eq_false z, if_neg z]
theorem dn_run {body : SS} {c : SM Bool} {mk : Nat → Nat → Rho} {k : Nat} (hc : ∀ a b, Bd k b → c (mk a b) dc = .ok (decide (b * 2 ≤ a), dc)) (hb : ∀ a b, Bd k b → body (mk a b) dc = .ok (.nx, mk a (b * 2), dc)) :
    ∀ (n a b : Nat), 0 < b → a < 2 * b + n → Bd k a → Bd k b → whD c body (n + 1) (mk a b) dc = .ok (.nx, mk a (dnN n a b), dc) := by
  intro n
  induction n with
  | zero =>
    intro a b h0 h hA hB
    unfold whD
    rw [hc a b hB, decide_eq_false (by omega)]
    rfl
  | succ n ih =>
    intro a b h0 h hA hB
    unfold whD dnN
    rw [hc a b hB]
    by_cases z : b * 2 ≤ a
    · rw [decide_eq_true z, if_pos z]
      simp only [hb a b hB]
      exact ih a (b * 2) (by omega) (by omega) hA (hA.le z)
    · rw [decide_eq_false z, if_neg z]
def octF (a b : Nat) : Nat × Nat := frN (upN b a b) (dnN (upN b a b) (upN b a b) b)
theorem oct_facts {a b : Nat} (ha : 0 < a) (hb : 0 < b) : ∃ i j, upN b a b = a * 2 ^ i ∧ dnN (upN b a b) (upN b a b) b = b * 2 ^ j ∧ dnN (upN b a b) (upN b a b) b ≤ upN b a b ∧ upN b a b < 2 * dnN (upN b a b) (upN b a b) b ∧ 0 < dnN (upN b a b) (upN b a b) b ∧ (upN b a b = a ∨ upN b a b < 2 * b) := by
  obtain ⟨i, e1, e2, e3⟩ := upN_facts b a b ha (by omega)
  obtain ⟨j, f1, f2, f3⟩ := dnN_facts (upN b a b) (upN b a b) b hb (by omega)
  refine ⟨i, j, e1, f1, ?_, f2, ?_, e3⟩
  · rcases f3 with f3 | f3
    · omega
    · exact f3
  · rcases Nat.eq_zero_or_pos (dnN (upN b a b) (upN b a b) b) with z | z
    · omega
    · exact z
theorem lt_N (a b : Nat) : vLt (.p (.int (a : Nat))) (.p (.int (b : Nat))) = some (.p (.bool (decide (a < b)))) := by
  show some (Val.p (.bool (decide ((a : Int) < (b : Int))))) = _
  have : decide ((a : Int) < (b : Int)) = decide (a < b) := by
    rw [Bool.eq_iff_iff, decide_eq_true_eq, decide_eq_true_eq]
    omega
  rw [this]
theorem ge_N (a b : Nat) : vGe (.p (.int (a : Nat))) (.p (.int (b : Nat))) = some (.p (.bool (decide (b ≤ a)))) := by
  show some (Val.p (.bool (decide ((b : Int) ≤ (a : Int))))) = _
  have : decide ((b : Int) ≤ (a : Int)) = decide (b ≤ a) := by
    rw [Bool.eq_iff_iff, decide_eq_true_eq, decide_eq_true_eq]
    omega
  rw [this]
theorem le_N (a b : Nat) : vLe (.p (.int (a : Nat))) (.p (.int (b : Nat))) = some (.p (.bool (decide (a ≤ b)))) := ge_N b a
theorem gt_N (a b : Nat) : vGt (.p (.int (a : Nat))) (.p (.int (b : Nat))) = some (.p (.bool (decide (b < a)))) := lt_N b a
theorem aug_ap {i : Nat} {op : Val → Val → Option Val} {f : SE} {ρ : Rho} {x : PyData} {v : PyData} {z : PyData} (h1 : ρ[i]? = some (some (.p x))) (h2 : f ρ dc = .ok (.p v, dc)) (h3 : op (.p x) (.p v) = some (.p z)) : sAug i op f ρ dc = .ok (.nx, ρ.set i (some (.p z)), dc) := by
  unfold sAug
  rw [h1]
  simp only [thn_ap, h2, and_ok, h3]
  rfl
theorem two_mul (b : Nat) : 2 * b = b * 2 := Nat.mul_comm 2 b
theorem in_octave_eq {a b k : Nat} (ha : 0 < a) (hb : 0 < b) (hA : Bd k a) (hB : Bd k b) (hk : 0 < k) (hk2 : k ≤ 7000) : fm_in_octave [.p (qD (a, b))] dc = .ok (.p (qD (octF a b)), dc) := by
  obtain ⟨i, j, e1, e2, e3, e4, e5, e6⟩ := oct_facts ha hb
  have hU : Bd (k + 1) (upN b a b) := by
    unfold Bd at *
    rw [Nat.pow_succ]
    omega
  have hD : Bd (k + 1) (dnN (upN b a b) (upN b a b) b) := hU.le e3
  have hB' := hB.mono (show k ≤ k + 1 by omega)
  have w1 : sWh (fuelI 2) (tstV (eBin vLt (eVar 1) (eVar 2))) (sAug 1 vMul (eP (.int 2))) [some (.p (qD (a, b))), some (.p (.int (a : Nat))), some (.p (.int (b : Nat)))] dc = .ok (.nx, [some (.p (qD (a, b))), some (.p (.int (upN b a b : Nat))), some (.p (.int (b : Nat)))], dc) :=
    up_run (mk := fun x y => [some (.p (qD (a, b))), some (.p (.int (x : Nat))), some (.p (.int (y : Nat)))]) (k := k) (fun x y => by
      simp only [tstV_ap, eBin_ap, eVar_ap, List.getElem?_cons_zero, List.getElem?_cons_succ, and_ok, lt_N, opt_some, asB_b]) (fun x y hx => (aug_ap (x := .int (x : Nat)) (v := .int 2) (z := .int ((x * 2 : Nat) : Int)) rfl rfl (mul_N (i := x) (j := 2) hk (by decide) hx two_B (by omega))).trans rfl) b a b ha (by omega) hB
  have w2 : sWh (fuelI 1) (tstV (eBin vGe (eVar 1) (eBin vMul (eP (.int 2)) (eVar 2)))) (sAug 2 vMul (eP (.int 2))) [some (.p (qD (a, b))), some (.p (.int (upN b a b : Nat))), some (.p (.int (b : Nat)))] dc = .ok (.nx, [some (.p (qD (a, b))), some (.p (.int (upN b a b : Nat))), some (.p (.int (dnN (upN b a b) (upN b a b) b : Nat)))], dc) :=
    dn_run (mk := fun x y => [some (.p (qD (a, b))), some (.p (.int (x : Nat))), some (.p (.int (y : Nat)))]) (k := k + 1) (fun x y hy => by
      have em : vMul (.p (.int 2)) (.p (.int (y : Nat))) = some (.p (.int ((2 * y : Nat) : Int))) := mul_N (i := 2) (j := y) (by decide) (by omega) two_B hy (by omega)
      simp only [tstV_ap, eBin_ap, eVar_ap, eP_ap, List.getElem?_cons_zero, List.getElem?_cons_succ, and_ok, em, ge_N, opt_some, asB_b, two_mul]) (fun x y hy => (aug_ap (x := .int (y : Nat)) (v := .int 2) (z := .int ((y * 2 : Nat) : Int)) rfl rfl (mul_N (i := y) (j := 2) (by omega) (by decide) hy two_B (by omega))).trans rfl) (upN b a b) (upN b a b) b hb (by omega) hU hB'
  have e9 := ratio_N (dc := dc) (a := upN b a b) e5 (by omega) hD (by omega)
  unfold fm_in_octave sb_in_octave
  simp only [fnM_ap, seq_ap, unp_ap, eVar_ap, List.map_cons, List.map_nil, List.length_cons, List.length_nil, List.replicate, Nat.reduceAdd, Nat.reduceSub, List.cons_append, List.nil_append, List.getElem?_cons_zero, List.getElem?_cons_succ, and_ok]
  have eu : unK (tgT [1, 2]) [some (.p (qD (a, b))), none, none] dc (.p (qD (a, b))) = .ok (.nx, [some (.p (qD (a, b))), some (.p (.int (a : Nat))), some (.p (.int (b : Nat)))], dc) := rfl
  rw [eu, and_ok, w1, and_ok, w2, and_ok]
  simp only [sRet_ap, eApp_ap, aCons_ap, aNil_ap, eVar_ap, List.getElem?_cons_zero, List.getElem?_cons_succ, and_ok, argB_p2, e9]
  rfl
theorem lfold_eq {a b k : Nat} (ha : 0 < a) (hb : 0 < b) (hA : Bd k a) (hB : Bd k b) (hk : 0 < k) (hk2 : k ≤ 180) : fm__law_folded [.p (.int (a : Nat)), .p (.int (b : Nat))] dc = .ok (.p (qD (octF a b)), dc) := by
  obtain ⟨i, j, e1, e2, e3, e4, e5, e6⟩ := oct_facts ha hb
  have hU : Bd (k + 1) (upN b a b) := by
    unfold Bd at *
    rw [Nat.pow_succ]
    omega
  have hD : Bd (k + 1) (dnN (upN b a b) (upN b a b) b) := hU.le e3
  have hB' := hB.mono (show k ≤ k + 1 by omega)
  have w1 : sWh (fuelI 1) (tstV (eBin vLt (eVar 0) (eVar 1))) (sSet 0 (eBin vMul (eP (.int 2)) (eVar 0))) [some (.p (.int (a : Nat))), some (.p (.int (b : Nat)))] dc = .ok (.nx, [some (.p (.int (upN b a b : Nat))), some (.p (.int (b : Nat)))], dc) :=
    up_run (mk := fun x y => [some (.p (.int (x : Nat))), some (.p (.int (y : Nat)))]) (k := k) (fun x y => by
      simp only [tstV_ap, eBin_ap, eVar_ap, List.getElem?_cons_zero, List.getElem?_cons_succ, and_ok, lt_N, opt_some, asB_b]) (fun x y hx => by
      have em : vMul (.p (.int 2)) (.p (.int (x : Nat))) = some (.p (.int ((2 * x : Nat) : Int))) := mul_N (i := 2) (j := x) (by decide) hk two_B hx (by omega)
      simp only [sSet_ap, eBin_ap, eVar_ap, eP_ap, List.getElem?_cons_zero, List.getElem?_cons_succ, and_ok, em, opt_some, Val.frz, setK_some, List.set_cons_zero, two_mul]) b a b ha (by omega) hB
  have w2 : sWh (fuelI 0) (tstV (eBin vGe (eVar 0) (eBin vMul (eP (.int 2)) (eVar 1)))) (sSet 1 (eBin vMul (eP (.int 2)) (eVar 1))) [some (.p (.int (upN b a b : Nat))), some (.p (.int (b : Nat)))] dc = .ok (.nx, [some (.p (.int (upN b a b : Nat))), some (.p (.int (dnN (upN b a b) (upN b a b) b : Nat)))], dc) :=
    dn_run (mk := fun x y => [some (.p (.int (x : Nat))), some (.p (.int (y : Nat)))]) (k := k + 1) (fun x y hy => by
      have em : vMul (.p (.int 2)) (.p (.int (y : Nat))) = some (.p (.int ((2 * y : Nat) : Int))) := mul_N (i := 2) (j := y) (by decide) (by omega) two_B hy (by omega)
      simp only [tstV_ap, eBin_ap, eVar_ap, eP_ap, List.getElem?_cons_zero, List.getElem?_cons_succ, and_ok, em, ge_N, opt_some, asB_b, two_mul]) (fun x y hy => by
      have em : vMul (.p (.int 2)) (.p (.int (y : Nat))) = some (.p (.int ((2 * y : Nat) : Int))) := mul_N (i := 2) (j := y) (by decide) (by omega) two_B hy (by omega)
      simp only [sSet_ap, eBin_ap, eVar_ap, eP_ap, List.getElem?_cons_zero, List.getElem?_cons_succ, and_ok, em, opt_some, Val.frz, setK_some, List.set_cons_zero, List.set_cons_succ, two_mul]) (upN b a b) (upN b a b) b hb (by omega) hU hB'
  have e9 := lfrac_N (dc := dc) (a := upN b a b) e5 (hD.mono (by omega))
  unfold fm__law_folded sb__law_folded
  simp only [fnM_ap, seq_ap, List.map_cons, List.map_nil, List.length_cons, List.length_nil, List.replicate, Nat.reduceAdd, Nat.reduceSub, List.cons_append, List.nil_append, List.append_nil]
  rw [w1, and_ok, w2, and_ok]
  simp only [sRet_ap, eApp_ap, aCons_ap, aNil_ap, eVar_ap, List.getElem?_cons_zero, List.getElem?_cons_succ, and_ok, argB_p2, e9]
  rfl
end

end K02

set_option maxHeartbeats 4000000
namespace K02
open PySem PySem.Spec PyProof.Rows L2 DL
/-! ### octaves: only the value counts -/
section
theorem pow_pos2 (m : Nat) : 0 < 2 ^ m := Nat.pos_of_ne_zero (by
  intro h
  have := Nat.pow_eq_zero.mp h
  omega)
theorem ratio_one {A B A' B' m n : Nat} (h1 : B ≤ A) (h2 : A < 2 * B) (h3 : B' ≤ A') (h4 : A' < 2 * B') (e : A * B' * 2 ^ m = A' * B * 2 ^ n) : A * B' = A' * B := by
  have key : ∀ (A B A' B' : Nat), B ≤ A → A < 2 * B → B' ≤ A' → A' < 2 * B' → ∀ m r, A * B' * 2 ^ m = A' * B * 2 ^ (m + (r + 1)) → False := by
    intro A B A' B' h1 h2 h3 h4 m r e
    have e' : A * B' = A' * B * 2 ^ (r + 1) := by
      rw [Nat.pow_add, Nat.mul_comm (2 ^ m), ← Nat.mul_assoc] at e
      exact Nat.eq_of_mul_eq_mul_right (pow_pos2 m) e
    have hb' : 0 < B' := by omega
    have u1 : A * B' < 2 * B * B' := Nat.mul_lt_mul_of_pos_right h2 hb'
    have u2 : B * B' ≤ B * A' := Nat.mul_le_mul_left B h3
    have u3 : A' * B * 2 ≤ A' * B * 2 ^ (r + 1) := by
      refine Nat.mul_le_mul_left _ ?_
      rw [Nat.pow_succ]
      have := pow_pos2 r
      omega
    rw [Nat.mul_comm A' B] at u3 e'
    rw [Nat.mul_assoc 2 B B'] at u1
    omega
  rcases Nat.lt_trichotomy m n with h | h | h
  · exact (key A B A' B' h1 h2 h3 h4 m (n - m - 1) (by rw [show m + (n - m - 1 + 1) = n by omega]; exact e)).elim
  · subst h
    exact Nat.eq_of_mul_eq_mul_right (pow_pos2 m) e
  · exact (key A' B' A B h3 h4 h1 h2 n (m - n - 1) (by rw [show n + (m - n - 1 + 1) = m by omega]; exact e.symm)).elim
/-- two fractions in lowest terms of one value -/
def Red (p : Nat × Nat) : Prop := 0 < p.1 ∧ 0 < p.2 ∧ Nat.gcd p.1 p.2 = 1
theorem red_eq {p q : Nat × Nat} (hp : Red p) (hq : Red q) (e : p.1 * q.2 = q.1 * p.2) : p = q := by
  have c1 : Nat.Coprime p.1 p.2 := hp.2.2
  have c2 : Nat.Coprime q.1 q.2 := hq.2.2
  have d1 : p.1 ∣ q.1 := c1.dvd_of_dvd_mul_right (show p.1 ∣ q.1 * p.2 from ⟨q.2, e.symm⟩)
  have d2 : q.1 ∣ p.1 := c2.dvd_of_dvd_mul_right (show q.1 ∣ p.1 * q.2 from ⟨p.2, e⟩)
  have e1 := Nat.dvd_antisymm d1 d2
  refine Prod.ext e1 ?_
  rw [e1] at e
  exact (Nat.eq_of_mul_eq_mul_left hq.1 e).symm
theorem fr_red {a b : Nat} (ha : 0 < a) (hb : 0 < b) : Red (frN a b) := by
  have g0 : 0 < Nat.gcd a b := gcd_pos hb
  refine ⟨Nat.div_pos (Nat.gcd_le_left _ ha) g0, Nat.div_pos (Nat.gcd_le_right _ hb) g0, ?_⟩
  exact Nat.coprime_div_gcd_div_gcd g0
theorem fr_val {a b : Nat} (hb : 0 < b) : (frN a b).1 * b = a * (frN a b).2 := by
  have d1 := Nat.div_mul_cancel (Nat.gcd_dvd_left a b)
  have d2 := Nat.div_mul_cancel (Nat.gcd_dvd_right a b)
  show a / Nat.gcd a b * b = a * (b / Nat.gcd a b)
  calc a / Nat.gcd a b * b = a / Nat.gcd a b * (b / Nat.gcd a b * Nat.gcd a b) := by rw [d2]
    _ = (a / Nat.gcd a b * Nat.gcd a b) * (b / Nat.gcd a b) := by rw [Nat.mul_comm (b / Nat.gcd a b), Nat.mul_assoc]
    _ = a * (b / Nat.gcd a b) := by rw [d1]
theorem fr_eq {a b c d : Nat} (ha : 0 < a) (hb : 0 < b) (hc : 0 < c) (hd : 0 < d) (e : a * d = c * b) : frN a b = frN c d := by
  refine red_eq (fr_red ha hb) (fr_red hc hd) ?_
  have v1 := fr_val (a := a) hb
  have v2 := fr_val (a := c) hd
  -- p1 b = a p2 ; q1 d = c q2 ; a d = c b
  refine Nat.eq_of_mul_eq_mul_right (Nat.mul_pos hb hd) ?_
  calc (frN a b).1 * (frN c d).2 * (b * d) = ((frN a b).1 * b) * ((frN c d).2 * d) := by
        rw [Nat.mul_mul_mul_comm]
    _ = (a * (frN a b).2) * ((frN c d).2 * d) := by rw [v1]
    _ = (a * d) * ((frN a b).2 * (frN c d).2) := by
        rw [Nat.mul_comm (frN c d).2 d, Nat.mul_mul_mul_comm]
    _ = (c * b) * ((frN a b).2 * (frN c d).2) := by rw [e]
    _ = (c * (frN c d).2) * ((frN a b).2 * b) := by
        rw [Nat.mul_comm (frN a b).2 (frN c d).2, Nat.mul_mul_mul_comm, Nat.mul_comm b (frN a b).2]
    _ = ((frN c d).1 * d) * ((frN a b).2 * b) := by rw [v2]
    _ = (frN c d).1 * (frN a b).2 * (b * d) := by
        rw [Nat.mul_mul_mul_comm, Nat.mul_comm d b]
theorem fr_self {p : Nat × Nat} (h : Red p) : frN p.1 p.2 = p := by
  unfold frN
  rw [h.2.2, Nat.div_one, Nat.div_one]
theorem oct_eq {a b a' b' p q : Nat} (ha : 0 < a) (hb : 0 < b) (ha' : 0 < a') (hb' : 0 < b') (e : a * b' * 2 ^ p = a' * b * 2 ^ q) : octF a b = octF a' b' := by
  obtain ⟨i, j, e1, e2, e3, e4, e5, e6⟩ := oct_facts ha hb
  obtain ⟨i', j', f1, f2, f3, f4, f5, f6⟩ := oct_facts ha' hb'
  unfold octF
  refine fr_eq (by omega) e5 (by omega) f5 (ratio_one (m := p + i' + j) (n := q + i + j') e3 e4 f3 f4 ?_)
  rw [e1] at e2 ⊢
  rw [f1] at f2 ⊢
  rw [e2, f2]
  -- a 2^i b' 2^j' 2^(p+i'+j) = a' 2^i' b 2^j 2^(q+i+j')
  have r1 : a * 2 ^ i * (b' * 2 ^ j') * 2 ^ (p + i' + j) = (a * b' * 2 ^ p) * 2 ^ (i + j' + i' + j) := by
    rw [Nat.mul_mul_mul_comm, ← Nat.pow_add, Nat.mul_assoc, ← Nat.pow_add, Nat.mul_assoc (a * b'), ← Nat.pow_add]
    congr 2
    omega
  have r2 : a' * 2 ^ i' * (b * 2 ^ j) * 2 ^ (q + i + j') = (a' * b * 2 ^ q) * 2 ^ (i + j' + i' + j) := by
    rw [Nat.mul_mul_mul_comm, ← Nat.pow_add, Nat.mul_assoc, ← Nat.pow_add, Nat.mul_assoc (a' * b), ← Nat.pow_add]
    congr 2
    omega
  rw [r1, r2, e]
/-- .. is in lowest terms, from 1 on, less than 2 -/
theorem oct_red {a b : Nat} (ha : 0 < a) (hb : 0 < b) : Red (octF a b) ∧ (octF a b).2 ≤ (octF a b).1 ∧ (octF a b).1 < 2 * (octF a b).2 := by
  obtain ⟨i, j, e1, e2, e3, e4, e5, e6⟩ := oct_facts ha hb
  have hA : 0 < upN b a b := by omega
  have r := fr_red hA e5
  have v := fr_val (a := upN b a b) e5
  refine ⟨r, ?_, ?_⟩
  · refine Nat.le_of_mul_le_mul_right (c := dnN (upN b a b) (upN b a b) b) ?_ e5
    show (frN _ _).2 * _ ≤ (frN (upN b a b) (dnN (upN b a b) (upN b a b) b)).1 * _
    rw [v, Nat.mul_comm]
    exact Nat.mul_le_mul_right _ e3
  · refine Nat.lt_of_mul_lt_mul_right (a := dnN (upN b a b) (upN b a b) b) ?_
    show (frN (upN b a b) (dnN (upN b a b) (upN b a b) b)).1 * _ < 2 * (frN _ _).2 * _
    rw [v, Nat.mul_comm 2, Nat.mul_assoc, Nat.mul_comm (upN b a b)]
    exact Nat.mul_lt_mul_of_pos_left e4 r.2.1
theorem oct_rep {a b : Nat} (ha : 0 < a) (hb : 0 < b) : ∃ i j, (octF a b).1 * b * 2 ^ j = (octF a b).2 * a * 2 ^ i := by
  obtain ⟨i, j, e1, e2, e3, e4, e5, e6⟩ := oct_facts ha hb
  refine ⟨i, j, ?_⟩
  have v := fr_val (a := upN b a b) e5
  have v' : (octF a b).1 * (b * 2 ^ j) = a * 2 ^ i * (octF a b).2 := by
    rw [e2] at v
    rw [← e1]
    show (frN (upN b a b) (dnN (upN b a b) (upN b a b) b)).1 * (b * 2 ^ j) = _ * (frN _ (dnN (upN b a b) (upN b a b) b)).2
    rw [e2]
    exact v
  rw [Nat.mul_assoc, v', Nat.mul_comm (a * 2 ^ i), Nat.mul_assoc]
theorem oct_le {a b M : Nat} (ha : 0 < a) (hb : 0 < b) (h1 : a ≤ M) (h2 : 2 * b ≤ M) : (octF a b).1 ≤ M ∧ (octF a b).2 ≤ M := by
  obtain ⟨i, j, e1, e2, e3, e4, e5, e6⟩ := oct_facts ha hb
  have hu : upN b a b ≤ M := by
    rcases e6 with e6 | e6 <;> omega
  have d1 := Nat.div_le_self (upN b a b) (Nat.gcd (upN b a b) (dnN (upN b a b) (upN b a b) b))
  have d2 := Nat.div_le_self (dnN (upN b a b) (upN b a b) b) (Nat.gcd (upN b a b) (dnN (upN b a b) (upN b a b) b))
  exact ⟨Nat.le_trans d1 hu, Nat.le_trans d2 (Nat.le_trans e3 hu)⟩
theorem oct_self {p : Nat × Nat} (h : Red p) (h1 : p.2 ≤ p.1) (h2 : p.1 < 2 * p.2) : octF p.1 p.2 = p := by
  have u : upN p.2 p.1 p.2 = p.1 := by
    obtain ⟨a, b⟩ := p
    cases b with
    | zero => rfl
    | succ b =>
      show (if a < b + 1 then _ else a) = a
      rw [if_neg (Nat.not_lt.mpr h1)]
  have d : dnN p.1 p.1 p.2 = p.2 := by
    obtain ⟨a, b⟩ := p
    cases a with
    | zero => rfl
    | succ a =>
      show (if b * 2 ≤ a + 1 then _ else b) = b
      rw [if_neg (by have : a + 1 < 2 * b := h2; omega)]
  unfold octF
  rw [u, d, fr_self h]
theorem oct_one {a : Nat} (ha : 0 < a) : octF a a = (1, 1) := by
  have := oct_eq (p := 0) (q := 0) ha ha (a' := 1) (b' := 1) (by decide) (by decide) (by omega)
  rw [this]
  decide
/-! ### fractions in order -/
def ltF (p q : Nat × Nat) : Prop := p.1 * q.2 < q.1 * p.2
instance (p q : Nat × Nat) : Decidable (ltF p q) := Nat.decLt _ _
theorem ltF_irr (p : Nat × Nat) : ¬ ltF p p := Nat.lt_irrefl _
theorem ltF_trans {p q r : Nat × Nat} (hq : Red q) (hp : 0 < p.2) (hr : 0 < r.2) (h1 : ltF p q) (h2 : ltF q r) : ltF p r := by
  unfold ltF at *
  -- p1 q2 < q1 p2, q1 r2 < r1 q2
  refine Nat.lt_of_mul_lt_mul_right (a := q.2) ?_
  have u1 : p.1 * q.2 * r.2 < q.1 * p.2 * r.2 := Nat.mul_lt_mul_of_pos_right h1 hr
  have u2 : q.1 * r.2 * p.2 < r.1 * q.2 * p.2 := Nat.mul_lt_mul_of_pos_right h2 hp
  calc p.1 * r.2 * q.2 = p.1 * q.2 * r.2 := Nat.mul_right_comm _ _ _
    _ < q.1 * p.2 * r.2 := u1
    _ = q.1 * r.2 * p.2 := Nat.mul_right_comm _ _ _
    _ < r.1 * q.2 * p.2 := u2
    _ = r.1 * p.2 * q.2 := Nat.mul_right_comm _ _ _
theorem ltF_tri {p q : Nat × Nat} (hp : Red p) (hq : Red q) (h1 : ¬ ltF p q) (h2 : ¬ ltF q p) : p = q := by
  unfold ltF at *
  exact red_eq hp hq (by omega)
theorem ltF_asymm {p q : Nat × Nat} (h : ltF p q) : ¬ ltF q p := by
  unfold ltF at *
  omega
/-- two rising lists of the same fractions -/
theorem up_unique : ∀ {l m : List (Nat × Nat)}, (∀ p ∈ l, Red p) → (∀ p ∈ m, Red p) → l.Pairwise ltF → m.Pairwise ltF → (∀ p, p ∈ l ↔ p ∈ m) → l = m
  | [], [], _, _, _, _, _ => rfl
  | [], q :: m, _, _, _, _, h => absurd ((h q).mpr List.mem_cons_self) (by simp)
  | p :: l, [], _, _, _, _, h => absurd ((h p).mp List.mem_cons_self) (by simp)
  | p :: l, q :: m, hl, hm, ul, um, h => by
    obtain ⟨l1, l2⟩ := List.pairwise_cons.mp ul
    obtain ⟨m1, m2⟩ := List.pairwise_cons.mp um
    have e : p = q := by
      rcases List.mem_cons.mp ((h p).mp List.mem_cons_self) with e | e1
      · exact e
      · rcases List.mem_cons.mp ((h q).mpr List.mem_cons_self) with e | e2
        · exact e.symm
        · exact absurd (l1 q e2) (ltF_asymm (m1 p e1))
    subst e
    have ih := up_unique (l := l) (m := m) (fun x hx => hl x (List.mem_cons_of_mem _ hx)) (fun x hx => hm x (List.mem_cons_of_mem _ hx)) l2 m2 fun x => by
      constructor
      · intro hx
        rcases List.mem_cons.mp ((h x).mp (List.mem_cons_of_mem _ hx)) with e | e
        · subst e
          exact absurd (l1 x hx) (ltF_irr x)
        · exact e
      · intro hx
        rcases List.mem_cons.mp ((h x).mpr (List.mem_cons_of_mem _ hx)) with e | e
        · subst e
          exact absurd (m1 x hx) (ltF_irr x)
        · exact e
    rw [ih]
end

end K02

set_option maxHeartbeats 4000000
namespace K02
open PySem PySem.Spec PyProof.Rows L2 DL
/-! ### rows put in order -/
section
variable {dc : Dc}
def cst (p : Nat × Nat) : Int × Int := ((p.1 : Int), (p.2 : Int))
theorem cst_inj {p q : Nat × Nat} (h : cst p = cst q) : p = q := by
  have h1 := congrArg Prod.fst h
  have h2 := congrArg Prod.snd h
  have h1' : (p.1 : Int) = (q.1 : Int) := h1
  have h2' : (p.2 : Int) = (q.2 : Int) := h2
  exact Prod.ext (by omega) (by omega)
theorem eqv_qD (p q : Nat × Nat) : PyData.eqv (qD p) (qD q) = decide (p = q) := by
  have e := eqv_pD (cst p) (cst q)
  show PyData.eqv (pD (cst p)) (pD (cst q)) = _
  rw [e, Bool.eq_iff_iff, decide_eq_true_eq, decide_eq_true_eq]
  exact ⟨cst_inj, fun h => h ▸ rfl⟩
theorem Sh.qD (p : Nat × Nat) : Sh 1 (qD p) := Sh.pD (cst p)
theorem q_map (l : List (Nat × Nat)) : l.map qD = (l.map cst).map pD := by
  rw [List.map_map]
  rfl
def Bp (k : Nat) (p : Nat × Nat) : Prop := Bd k p.1 ∧ Bd k p.2
theorem ix0_q (p : Nat × Nat) : vIx (.p (qD p)) (.p (.int 0)) = some (.p (.int (p.1 : Nat))) := by
  unfold qD pD
  rw [ix_t, at_0]
  rfl
theorem ix1_q (p : Nat × Nat) : vIx (.p (qD p)) (.p (.int 1)) = some (.p (.int (p.2 : Nat))) := by
  unfold qD pD
  rw [ix_t, at_1]
  rfl
def ltB (p q : Nat × Nat) : Bool := decide (p.1 * q.2 < q.1 * p.2)
theorem ltB_iff {p q : Nat × Nat} : ltB p q = true ↔ ltF p q := decide_eq_true_iff
theorem is_less_eq {p q : Nat × Nat} {k : Nat} (hk : 0 < k) (hk2 : k ≤ 10000) (hp : Bp k p) (hq : Bp k q) : fm_is_less [.p (qD p), .p (qD q)] dc = .ok (.p (.bool (ltB p q)), dc) := by
  have m1 := mul_N hk hk hp.1 hq.2 (by omega)
  have m2 := mul_N hk hk hq.1 hp.2 (by omega)
  unfold fm_is_less sb_is_less
  simp only [fnM_ap, sRet_ap, eBin_ap, eVar_ap, eP_ap, List.map_cons, List.map_nil, List.length_cons, List.length_nil, List.replicate, Nat.reduceAdd, Nat.reduceSub, List.cons_append, List.nil_append, List.append_nil, List.getElem?_cons_zero, List.getElem?_cons_succ, and_ok, ix0_q, ix1_q, opt_some, m1, m2, lt_N]
  rfl
def plF (l : List (Nat × Nat)) (x : Nat × Nat) : Nat := (l.filter fun y => ltB y x).length
def insF (l : List (Nat × Nat)) (x : Nat × Nat) : List (Nat × Nat) := if x ∈ l then l else l.take (plF l x) ++ [x] ++ l.drop (plF l x)
def srt (l : List (Nat × Nat)) : List (Nat × Nat) := l.foldl insF []
theorem ins_facts {x : Nat × Nat} (hx : Red x) : ∀ {l : List (Nat × Nat)}, (∀ p ∈ l, Red p) → l.Pairwise ltF → x ∉ l → (l.take (plF l x) ++ [x] ++ l.drop (plF l x)).Pairwise ltF ∧ ∀ p, p ∈ l.take (plF l x) ++ [x] ++ l.drop (plF l x) ↔ p = x ∨ p ∈ l
  | [], _, _, _ => ⟨List.pairwise_singleton _ _, fun p => by show p ∈ [x] ↔ _; simp⟩
  | y :: r, hl, hu, hn => by
    obtain ⟨u1, u2⟩ := List.pairwise_cons.mp hu
    have hy := hl y List.mem_cons_self
    have hr : ∀ p ∈ r, Red p := fun p hp => hl p (List.mem_cons_of_mem _ hp)
    have hn2 : x ∉ r := fun h => hn (List.mem_cons_of_mem _ h)
    obtain ⟨i1, i2⟩ := ins_facts hx hr u2 hn2
    by_cases c : ltF y x
    · have ek : plF (y :: r) x = plF r x + 1 := by
        unfold plF
        rw [List.filter_cons_of_pos (p := fun y => ltB y x) (ltB_iff.mpr c), List.length_cons]
      rw [ek, List.take_succ_cons, List.drop_succ_cons]
      refine ⟨?_, fun p => ?_⟩
      · show (y :: (r.take (plF r x) ++ [x] ++ r.drop (plF r x))).Pairwise ltF
        refine List.pairwise_cons.mpr ⟨fun p hp => ?_, i1⟩
        rcases (i2 p).mp hp with e | e
        · rw [e]; exact c
        · exact u1 p e
      · show p ∈ y :: (r.take (plF r x) ++ [x] ++ r.drop (plF r x)) ↔ _
        rw [List.mem_cons, i2, List.mem_cons]
        constructor
        · rintro (h | h | h)
          · exact .inr (.inl h)
          · exact .inl h
          · exact .inr (.inr h)
        · rintro (h | h | h)
          · exact .inr (.inl h)
          · exact .inl h
          · exact .inr (.inr h)
    · have cxy : ltF x y := by
        rcases Classical.em (ltF x y) with z | z
        · exact z
        · exact absurd (ltF_tri hx hy z c) (fun e => hn (e ▸ List.mem_cons_self))
      have hall : ∀ p ∈ r, ltF x p := fun p hp => ltF_trans hy hx.2.1 (hr p hp).2.1 cxy (u1 p hp)
      have e0 : (r.filter fun y => ltB y x) = [] := List.filter_eq_nil_iff.mpr fun p hp z => ltF_asymm (hall p hp) (ltB_iff.mp z)
      have ek : plF (y :: r) x = 0 := by
        unfold plF
        rw [List.filter_cons_of_neg (p := fun y => ltB y x) (fun z => c (ltB_iff.mp z)), e0]
        rfl
      rw [ek]
      show (x :: y :: r).Pairwise ltF ∧ ∀ p, p ∈ x :: y :: r ↔ _
      refine ⟨List.pairwise_cons.mpr ⟨fun p hp => ?_, hu⟩, fun p => List.mem_cons⟩
      rcases List.mem_cons.mp hp with e | e
      · rw [e]; exact cxy
      · exact hall p e
theorem insF_facts {x : Nat × Nat} (hx : Red x) {l : List (Nat × Nat)} (hl : ∀ p ∈ l, Red p) (hu : l.Pairwise ltF) : (insF l x).Pairwise ltF ∧ ∀ p, p ∈ insF l x ↔ p = x ∨ p ∈ l := by
  unfold insF
  by_cases c : x ∈ l
  · rw [if_pos c]
    exact ⟨hu, fun p => ⟨.inr, fun h => h.elim (fun e => e ▸ c) id⟩⟩
  · rw [if_neg c]
    exact ins_facts hx hl hu c
theorem fold_facts : ∀ (l a : List (Nat × Nat)), (∀ p ∈ l, Red p) → (∀ p ∈ a, Red p) → a.Pairwise ltF → (l.foldl insF a).Pairwise ltF ∧ ∀ p, p ∈ l.foldl insF a ↔ p ∈ a ∨ p ∈ l
  | [], a, _, _, hu => ⟨hu, fun p => by simp⟩
  | x :: l, a, hl, ha, hu => by
    have hx := hl x List.mem_cons_self
    obtain ⟨u1, m1⟩ := insF_facts hx ha hu
    obtain ⟨u2, m2⟩ := fold_facts l (insF a x) (fun p hp => hl p (List.mem_cons_of_mem _ hp)) (fun p hp => by
      rcases (m1 p).mp hp with e | e
      · rw [e]; exact hx
      · exact ha p e) u1
    refine ⟨u2, fun p => ?_⟩
    rw [List.foldl_cons, m2, m1, List.mem_cons]
    constructor
    · rintro ((h | h) | h)
      · exact .inr (.inl h)
      · exact .inl h
      · exact .inr (.inr h)
    · rintro (h | h | h)
      · exact .inl (.inr h)
      · exact .inl (.inl h)
      · exact .inr h
theorem srt_facts {l : List (Nat × Nat)} (hl : ∀ p ∈ l, Red p) : (srt l).Pairwise ltF ∧ ∀ p, p ∈ srt l ↔ p ∈ l := by
  obtain ⟨h1, h2⟩ := fold_facts l [] hl (fun p hp => by cases hp) .nil
  exact ⟨h1, fun p => by unfold srt; rw [h2]; simp⟩
theorem insF_len (l : List (Nat × Nat)) (x : Nat × Nat) : (insF l x).length ≤ l.length + 1 := by
  unfold insF
  split
  · omega
  · rw [List.length_append, List.length_append, List.length_take, List.length_drop, List.length_singleton]
    omega
theorem fold_len : ∀ (l a : List (Nat × Nat)), (l.foldl insF a).length ≤ a.length + l.length
  | [], a => by show a.length ≤ _; omega
  | x :: l, a => by
    have h1 := fold_len l (insF a x)
    have h2 := insF_len a x
    rw [List.foldl_cons, List.length_cons]
    omega
theorem srt_len (l : List (Nat × Nat)) : (srt l).length ≤ l.length := by
  have := fold_len l []
  rw [List.length_nil, Nat.zero_add] at this
  exact this
theorem ins_ok {i : Nat} {a : SM (List Val)} {ρ : Rho} {ds : List PyData} {j : Nat} {d : PyData} (h1 : ρ[i]? = some (some (.ol ds))) (h2 : a ρ dc = .ok ([.p (.int (j : Nat)), .p d], dc)) (h3 : ds.length < 100000) (h4 : j ≤ 1000) : sMutL i mInsert a ρ dc = .ok (.nx, ρ.set i (some (.ol (ds.take j ++ [d] ++ ds.drop j))), dc) := by
  unfold sMutL
  rw [h1]
  show SM.thn a _ ρ dc = _
  rw [thn_ap, h2, and_ok]
  show (match (if ds.length < 100000 ∧ 0 ≤ (j : Int) ∧ (j : Int) ≤ 100000 then some (ds.take (j : Int).toNat ++ [d] ++ ds.drop (j : Int).toNat) else none) with | some ds' => Res.ok (Fl.nx, ρ.set i (some (.ol ds')), dc) | none => .stuck) = _
  rw [if_pos ⟨h3, by omega, by omega⟩]
  rfl
abbrev bIns : SS := sIf (tstV (eBin vNotInD (eVar 2) (eVar 1))) (sSeq (sSet 3 (eCall vLen (aCons (eComp (itS (eVar 1)) (tgN 4) [4] (tstV (eApp 2 fm_is_less (aCons (eVar 4) (aCons (eVar 2) aNil)))) (eP (.int 1))) aNil))) (sMutL 1 mInsert (aCons (eVar 3) (aCons (eVar 2) aNil)))) sNx
theorem in_order_eq {v : PyData} {l : List (Nat × Nat)} {k : Nat} (hv : frD (.p v) = some (l.map qD)) (hl : l.length ≤ 900) (hR : ∀ p ∈ l, Red p) (hk : 0 < k) (hk2 : k ≤ 10000) (hB : ∀ p ∈ l, Bp k p) : fm_in_order [.p v] dc = .ok (.p (.list ((srt l).map qD)), dc) := by
  have L := forD_pre (dc := dc) (tg := tgN 2) (g := qD) (l := l) (body := bIns) (I := fun d ρ => ∃ x2 x3, ρ = [some (.p v), some (.ol ((srt d).map qD)), x2, x3, none]) (fun d x r e ρ ⟨x2, x3, hρ⟩ => by
    subst hρ
    have hd : d.length ≤ 900 := by
      have := congrArg List.length e
      rw [List.length_append] at this
      omega
    have hdm : ∀ p ∈ d, p ∈ l := fun p hp => by rw [e]; simp [hp]
    have hx : x ∈ l := by rw [e]; simp
    have hsl := srt_len d
    obtain ⟨_, sm⟩ := srt_facts (l := d) fun p hp => hR p (hdm p hp)
    have es : srt (d ++ [x]) = insF (srt d) x := by unfold srt; rw [List.foldl_append]; rfl
    have en := notIn_ok (f := qD) eqv_qD Sh.qD (by omega) x (srt d)
    have en' : vNotInD (.p (qD x)) (.ol ((srt d).map qD)) = some (.p (.bool (!decide (x ∈ srt d)))) := by
      refine (show vNotInD (.p (qD x)) (.ol ((srt d).map qD)) = vNotInD (.p (qD x)) (.p (.list ((srt d).map qD))) from rfl).trans (en.trans ?_)
      congr
    have et : tstV (eBin vNotInD (eVar 2) (eVar 1)) [some (.p v), some (.ol ((srt d).map qD)), some (.p (qD x)), x3, none] dc = .ok (!decide (x ∈ srt d), dc) := by
      simp only [tstV_ap, eBin_ap, eVar_ap, List.getElem?_cons_zero, List.getElem?_cons_succ, and_ok, en', opt_some, asB_b]
    rw [es]
    unfold insF
    by_cases c : x ∈ srt d
    · rw [if_pos c]
      refine ⟨[some (.p v), some (.ol ((srt d).map qD)), some (.p (qD x)), x3, none], _, rfl, ?_, some (.p (qD x)), x3, rfl⟩
      unfold bIns
      rw [sIf_ap, et, and_ok, decide_eq_true c]
      rfl
    · rw [if_neg c]
      have hp : plF (srt d) x ≤ 1000 := by
        have := List.length_filter_le (fun y => ltB y x) (srt d)
        unfold plF
        omega
      have ec := compL (it := itS (eVar 1)) (tg := tgN 4) (vs := [4]) (test := tstV (eApp 2 fm_is_less (aCons (eVar 4) (aCons (eVar 2) aNil)))) (elt := eP (.int 1)) (g := qD) (l := srt d) (t := fun y => ltB y x) (f := fun _ => .int 1) (ρ := [some (.p v), some (.ol ((srt d).map qD)), some (.p (qD x)), x3, none]) (dc := dc) rfl (by omega) (fun y hy => ⟨[some (.p v), some (.ol ((srt d).map qD)), some (.p (qD x)), x3, some (.p (qD y))], rfl, by
        have e1 := is_less_eq (dc := dc) hk hk2 (hB y (hdm y ((sm y).mp hy))) (hB x hx)
        simp only [and_ok, and_exn, and_stuck, opt_some, bind_ap, thn_ap, ret_ap, sopt_ap, eP_ap, eVar_ap, eBin_ap, eUn_ap, eChain_ap, chK_t, chK_f, aNil_ap, aCons_ap, eCall_ap, tstV_ap, asB_b, tAnd_ap, tOr_ap, tNot_ap, eAnd_ap, eOr_ap, eNot_ap, eIf_ap, eApp_ap, eAppK_ap, argB_p1, argB_p2, argB_p3, argB_p4, argB_p5, argB_d1, argB_d2, argB_s2, argB_f2, eAll_ap, eComp_ap, itS_ap, itF_ap, frD, tgN_ap, tgT_ap, seq_ap, sNx_ap, sIf_ap, sRet_ap, rtK_some, sSet_ap, setK_some, sFor_ap, unp_ap, unK_2, unK_3, fnK_rt, fnK_nx, fnK_exn, fnM_ap, List.getElem?_cons_zero, List.getElem?_cons_succ, List.map_cons, List.map_nil, List.length_cons, List.length_nil, List.length_map, List.replicate, List.append_nil, List.cons_append, List.nil_append, Option.map_some, Option.map_none, Option.bind_some, Option.bind_none, if_true, if_false, ite_true, ite_false, Bool.false_eq_true, Bool.true_eq_false, reduceCtorEq, isi_t, len_t, len_l, vLe, vLt, vGt, vGe, vAdd, vSub, sq_t, sq_l, wipeR, Val.ice, Val.frz, datas, Bool.not_true, Bool.not_false, setAll, List.set_cons_zero, List.set_cons_succ, List.set_nil, Nat.reduceAdd, Nat.reduceSub, Nat.reduceLeDiff, decide_true, e1], fun _ => rfl⟩)
      have s1 : sSet 3 (eCall vLen (aCons (eComp (itS (eVar 1)) (tgN 4) [4] (tstV (eApp 2 fm_is_less (aCons (eVar 4) (aCons (eVar 2) aNil)))) (eP (.int 1))) aNil)) [some (.p v), some (.ol ((srt d).map qD)), some (.p (qD x)), x3, none] dc = .ok (.nx, [some (.p v), some (.ol ((srt d).map qD)), some (.p (qD x)), some (.p (.int (plF (srt d) x : Nat))), none], dc) := by
        rw [sSet_ap, eCall_ap, aCons_ap, ec]
        simp only [and_ok, aNil_ap, len_l, opt_some, List.length_map, Val.frz, setK_some, List.set_cons_zero, List.set_cons_succ]
        rfl
      refine ⟨[some (.p v), some (.ol ((srt d).map qD)), some (.p (qD x)), x3, none], _, rfl, ?_, some (.p (qD x)), some (.p (.int (plF (srt d) x : Nat))), rfl⟩
      unfold bIns
      rw [sIf_ap, et, and_ok, decide_eq_false c]
      show sSeq _ _ _ dc = _
      refine seq_go s1 ?_
      rw [ins_ok (j := plF (srt d) x) (d := qD x) rfl rfl (by rw [List.length_map]; omega) hp, List.map_append, List.map_append, List.map_take, List.map_drop]
      rfl) [some (.p v), some (.ol []), none, none, none] ⟨none, none, rfl⟩
  obtain ⟨ρ', e, x2, x3, rfl⟩ := L
  have eF : sFor (itF (eVar 0)) (tgN 2) bIns [some (.p v), some (.ol []), none, none, none] dc = .ok (.nx, [some (.p v), some (.ol ((srt l).map qD)), x2, x3, none], dc) := by
    rw [sFor_ap, itF_ap, eVar_ap]
    show ((Res.ok (Val.p v, dc)).andThen fun p => Res.opt p.2 (frD p.1)).andThen _ = _
    rw [and_ok, hv, opt_some, and_ok]
    exact e
  have sE : sb_in_order [some (.p v), none, none, none, none] dc = .ok (.rt (.p (.list ((srt l).map qD))), [some (.p v), some (.ol ((srt l).map qD)), x2, x3, none], dc) := by
    refine seq_go (ρ' := [some (.p v), some (.ol []), none, none, none]) (dc' := dc) rfl ?_
    refine seq_go eF ?_
    rfl
  exact fn_go sE
/-! ### the law's order -/
def mnF (m : Nat × Nat) (l : List (Nat × Nat)) : Nat × Nat := l.foldl (fun m y => if ltB y m = true then y else m) m
theorem mn_facts : ∀ (l : List (Nat × Nat)) (m : Nat × Nat), (∀ p ∈ m :: l, Red p) → mnF m l ∈ m :: l ∧ ∀ p ∈ m :: l, ¬ ltF p (mnF m l)
  | [], m, _ => ⟨List.mem_cons_self, fun p hp => by rw [List.mem_singleton.mp hp]; exact ltF_irr m⟩
  | y :: l, m, h => by
    have hm := h m List.mem_cons_self
    have hy := h y (by simp)
    have hl : ∀ p ∈ l, Red p := fun p hp => h p (by simp [hp])
    by_cases c : ltF y m
    · have e : mnF m (y :: l) = mnF y l := by
        unfold mnF
        rw [List.foldl_cons, if_pos (ltB_iff.mpr c)]
      rw [e]
      obtain ⟨i1, i2⟩ := mn_facts l y fun p hp => by
        rcases List.mem_cons.mp hp with e | e
        · rw [e]; exact hy
        · exact hl p e
      refine ⟨List.mem_cons_of_mem _ i1, fun p hp => ?_⟩
      rcases List.mem_cons.mp hp with e | e
      · subst e
        intro z
        have hmn : Red (mnF y l) := by
          rcases List.mem_cons.mp i1 with e2 | e2
          · rw [e2]; exact hy
          · exact hl _ e2
        exact i2 y List.mem_cons_self (ltF_trans hm hy.2.1 hmn.2.1 c z)
      · exact i2 p e
    · have e : mnF m (y :: l) = mnF m l := by
        unfold mnF
        rw [List.foldl_cons, if_neg (fun z => c (ltB_iff.mp z))]
      rw [e]
      obtain ⟨i1, i2⟩ := mn_facts l m fun p hp => by
        rcases List.mem_cons.mp hp with e | e
        · rw [e]; exact hm
        · exact hl p e
      refine ⟨?_, fun p hp => ?_⟩
      · rcases List.mem_cons.mp i1 with e2 | e2
        · rw [e2]; exact List.mem_cons_self
        · exact List.mem_cons_of_mem _ (List.mem_cons_of_mem _ e2)
      · rcases List.mem_cons.mp hp with e | e
        · subst e; exact i2 _ List.mem_cons_self
        · rcases List.mem_cons.mp e with e | e
          · subst e
            intro z
            have hmn : Red (mnF m l) := by
              rcases List.mem_cons.mp i1 with e2 | e2
              · rw [e2]; exact hm
              · exact hl _ e2
            rcases Classical.em (ltF m p) with w | w
            · exact i2 m List.mem_cons_self (ltF_trans hy hm.2.1 hmn.2.1 w z)
            · rw [← ltF_tri hm hy w c] at z
              exact i2 m List.mem_cons_self z
          · exact i2 p (List.mem_cons_of_mem _ e)
def nqB (m p : Nat × Nat) : Bool := !decide (p = m)
theorem ne_len {m : Nat × Nat} : ∀ {l : List (Nat × Nat)}, l.Nodup → m ∈ l → (l.filter (nqB m)).length + 1 = l.length
  | [], _, h => by cases h
  | x :: l, hn, h => by
    obtain ⟨n1, n2⟩ := List.nodup_cons.mp hn
    by_cases c : x = m
    · subst c
      have e : l.filter (nqB x) = l := List.filter_eq_self.mpr fun y hy => by
        have hne : ¬ y = x := fun z => n1 (by rw [← z]; exact hy)
        unfold nqB
        rw [decide_eq_false hne]
        rfl
      rw [List.filter_cons_of_neg (by unfold nqB; simp), e, List.length_cons]
    · have hm : m ∈ l := by
        rcases List.mem_cons.mp h with e | e
        · exact absurd e.symm c
        · exact e
      rw [List.filter_cons_of_pos (by unfold nqB; rw [decide_eq_false c]; rfl), List.length_cons, List.length_cons, ne_len n2 hm]
theorem ne_qD (p q : Nat × Nat) : vNe (.p (qD p)) (.p (qD q)) = some (.p (.bool (!decide (p = q)))) := by
  rw [vNe_sh (Sh.qD p) (Sh.qD q) (by omega), eqv_qD]
theorem eq_qD (p q : Nat × Nat) : vEq (.p (qD p)) (.p (qD q)) = some (.p (.bool (decide (p = q)))) := by
  rw [vEq_sh (Sh.qD p) (Sh.qD q) (by omega), eqv_qD]
abbrev bMin : SS := sSet 3 (eIf (tstV (eBin vLt (eBin vMul (eBin vIx (eVar 4) (eP (.int 0))) (eBin vIx (eVar 3) (eP (.int 1)))) (eBin vMul (eBin vIx (eVar 3) (eP (.int 0))) (eBin vIx (eVar 4) (eP (.int 1)))))) (eVar 4) (eVar 3))
theorem min_run {l r : List (Nat × Nat)} {k : Nat} (hk : 0 < k) (hk2 : k ≤ 10000) {x1 x2 x4 : Option Val} {m : Nat × Nat} (hm : Bp k m) (hB : ∀ p ∈ r, Bp k p) : ∃ y4, sFor (itF (eVar 0)) (tgN 4) bMin [some (.p (.list (r.map qD))), x1, x2, some (.p (qD m)), x4] dc = .ok (.nx, [some (.p (.list (r.map qD))), x1, x2, some (.p (qD (mnF m r))), y4], dc) := by
  have L := forD_pre (dc := dc) (tg := tgN 4) (g := qD) (l := r) (body := bMin) (I := fun d ρ => ∃ y4, ρ = [some (.p (.list (r.map qD))), x1, x2, some (.p (qD (mnF m d))), y4] ∧ Bp k (mnF m d)) (fun d x s e ρ ⟨y4, hρ, hb⟩ => by
    subst hρ
    have hx := hB x (by rw [e]; simp)
    have em : mnF m (d ++ [x]) = if ltB x (mnF m d) = true then x else mnF m d := by unfold mnF; rw [List.foldl_append]; rfl
    have m1 := mul_N hk hk hx.1 hb.2 (by omega)
    have m2 := mul_N hk hk hb.1 hx.2 (by omega)
    have et : tstV (eBin vLt (eBin vMul (eBin vIx (eVar 4) (eP (.int 0))) (eBin vIx (eVar 3) (eP (.int 1)))) (eBin vMul (eBin vIx (eVar 3) (eP (.int 0))) (eBin vIx (eVar 4) (eP (.int 1))))) [some (.p (.list (r.map qD))), x1, x2, some (.p (qD (mnF m d))), some (.p (qD x))] dc = .ok (ltB x (mnF m d), dc) := by
      simp only [tstV_ap, eBin_ap, eVar_ap, eP_ap, List.getElem?_cons_zero, List.getElem?_cons_succ, and_ok, ix0_q, ix1_q, opt_some, m1, m2, lt_N, asB_b]
      rfl
    rw [em]
    by_cases c : ltB x (mnF m d) = true
    · rw [if_pos c]
      refine ⟨[some (.p (.list (r.map qD))), x1, x2, some (.p (qD (mnF m d))), some (.p (qD x))], _, rfl, (set_go (d := qD x) (dc' := dc) ?_).trans rfl, some (.p (qD x)), rfl, hx⟩
      rw [eIf_ap, et, and_ok, c]
      rfl
    · rw [if_neg c]
      have c' : ltB x (mnF m d) = false := by simpa using c
      refine ⟨[some (.p (.list (r.map qD))), x1, x2, some (.p (qD (mnF m d))), some (.p (qD x))], _, rfl, (set_go (d := qD (mnF m d)) (dc' := dc) ?_).trans rfl, some (.p (qD x)), rfl, hb⟩
      rw [eIf_ap, et, and_ok, c']
      rfl) [some (.p (.list (r.map qD))), x1, x2, some (.p (qD m)), x4] ⟨x4, rfl, hm⟩
  obtain ⟨ρ', e, y4, rfl, _⟩ := L
  refine ⟨y4, ?_⟩
  rw [sFor_ap, itF_ap, eVar_ap]
  show ((Res.ok (Val.p (.list (r.map qD)), dc)).andThen fun p => Res.opt p.2 (frD p.1)).andThen _ = _
  rw [and_ok]
  exact e
theorem unmap {l : List (Nat × Nat)} : ∀ {m : List (Int × Int)}, (∀ x ∈ m, x ∈ l.map cst) → ∃ s : List (Nat × Nat), m = s.map cst
  | [], _ => ⟨[], rfl⟩
  | x :: m, h => by
    obtain ⟨a, _, e⟩ := List.mem_map.mp (h x List.mem_cons_self)
    obtain ⟨s, es⟩ := unmap (m := m) fun y hy => h y (List.mem_cons_of_mem _ hy)
    exact ⟨a :: s, by rw [List.map_cons, e, es]⟩
abbrev bSel : SS := sSeq (sSet 3 (eBin vIx (eVar 0) (eP (.int 0)))) (sSeq (sFor (itF (eVar 0)) (tgN 4) bMin) (sSeq (sMutL 1 mAppend (aCons (eVar 3) aNil)) (sSet 0 (eComp (itS (eVar 0)) (tgN 4) [4] (tstV (eBin vNe (eVar 4) (eVar 3))) (eVar 4)))))
theorem lsorted_eq {l : List (Nat × Nat)} {k : Nat} (hl : l.length < 64) (hR : ∀ p ∈ l, Red p) (hk : 0 < k) (hk2 : k ≤ 10000) (hB : ∀ p ∈ l, Bp k p) : fm__law_sorted [.p (.list (l.map qD))] dc = .ok (.p (.tuple ((srt l).map qD)), dc) := by
  have e0 := sortSet_ok (ps := l.map cst) (by rw [List.length_map]; exact hl)
  obtain ⟨s, es⟩ := unmap (l := l) (m := (nubP (l.map cst)).mergeSort pLe) fun x hx => mem_nub.mp (List.mem_mergeSort.mp hx)
  have hmem : ∀ p, p ∈ s ↔ p ∈ l := fun p => by
    have h1 : cst p ∈ s.map cst ↔ cst p ∈ l.map cst := by rw [← es, List.mem_mergeSort, mem_nub]
    constructor
    · intro h
      obtain ⟨a, ha, ea⟩ := List.mem_map.mp (h1.mp (List.mem_map.mpr ⟨p, h, rfl⟩))
      exact cst_inj ea ▸ ha
    · intro h
      obtain ⟨a, ha, ea⟩ := List.mem_map.mp (h1.mpr (List.mem_map.mpr ⟨p, h, rfl⟩))
      exact cst_inj ea ▸ ha
  have hnd : s.Nodup := by
    have h2 : (s.map cst).Nodup := by
      rw [← es]
      exact (List.mergeSort_perm (nubP (l.map cst)) pLe).nodup_iff.mpr (nub_nodup _)
    exact List.Pairwise.of_map cst (fun a b h e => h (e ▸ rfl)) h2
  have hsl : s.length < 64 := by
    have h3 := nodup_len s l hnd fun x hx => (hmem x).mp hx
    omega
  rw [es, ← q_map, ← q_map] at e0
  have sP : sParL 0 1 (eUn vSortSet (eVar 0)) aNil [some (.p (.list (l.map qD))), none, none, none, none] dc = .ok (.nx, [some (.p (.list (s.map qD))), some (.ol []), none, none, none], dc) := by
    have e1 : eUn vSortSet (eVar 0) [some (.p (.list (l.map qD))), none, none, none, none] dc = .ok (.p (.list (s.map qD)), dc) := by
      rw [eUn_ap, eVar_ap]
      show Res.opt dc (vSortSet (.p (.list (l.map qD)))) = _
      rw [e0]
      rfl
    unfold sParL
    rw [thn_ap, e1, and_ok, thn_ap, aNil_ap, and_ok]
    rfl
  have L := forD_pre (dc := dc) (tg := tgN 2) (g := fun i : Nat => PyData.int i) (l := List.range s.length) (body := bSel)
    (I := fun d ρ => ∃ F r x2 x3 x4, ρ = [some (.p (.list (r.map qD))), some (.ol (F.map qD)), x2, x3, x4] ∧ F.length = d.length ∧ r.length + d.length = s.length ∧ F.Pairwise ltF ∧ (∀ a ∈ F, ∀ b ∈ r, ltF a b) ∧ r.Nodup ∧ ∀ p, (p ∈ F ∨ p ∈ r) ↔ p ∈ l) (fun d x rest e ρ ⟨F, r, x2, x3, x4, hρ, hF, hr, u1, u2, u3, u4⟩ => by
      subst hρ
      have hd : d.length < s.length := by
        have := congrArg List.length e
        rw [List.length_range, List.length_append, List.length_cons] at this
        omega
      have hrR : ∀ p ∈ r, Red p := fun p hp => hR p ((u4 p).mp (.inr hp))
      have hrB : ∀ p ∈ r, Bp k p := fun p hp => hB p ((u4 p).mp (.inr hp))
      obtain ⟨m, r0, er⟩ : ∃ m r0, r = m :: r0 := by
        cases r with
        | nil => rw [List.length_nil] at hr; omega
        | cons m r0 => exact ⟨m, r0, rfl⟩
      have hm : m ∈ r := by rw [er]; exact List.mem_cons_self
      obtain ⟨f1, f2⟩ := mn_facts r m (fun p hp => by
        rcases List.mem_cons.mp hp with z | z
        · rw [z]; exact hrR m hm
        · exact hrR p z)
      have f1' : mnF m r ∈ r := by
        rcases List.mem_cons.mp f1 with z | z
        · rw [z]; exact hm
        · exact z
      obtain ⟨y4, eM⟩ := min_run (dc := dc) (l := r) (r := r) hk hk2 (x1 := some (.ol (F.map qD))) (x2 := some (.p (.int x))) (x4 := x4) (m := m) (hrB m hm) hrB
      have ei : eBin vIx (eVar 0) (eP (.int 0)) [some (.p (.list (r.map qD))), some (.ol (F.map qD)), some (.p (.int x)), x3, x4] dc = .ok (.p (qD m), dc) := by
        simp only [eBin_ap, eVar_ap, eP_ap, List.getElem?_cons_zero, and_ok, ix_l, er, List.map_cons, at_0, Option.map_some, opt_some]
      have ec := compL (it := itS (eVar 0)) (tg := tgN 4) (vs := [4]) (test := tstV (eBin vNe (eVar 4) (eVar 3))) (elt := eVar 4) (g := qD) (l := r) (t := nqB (mnF m r)) (f := qD) (ρ := [some (.p (.list (r.map qD))), some (.ol (F.map qD ++ [qD (mnF m r)])), some (.p (.int x)), some (.p (qD (mnF m r))), y4]) (dc := dc) rfl (by omega) (fun y _ => ⟨[some (.p (.list (r.map qD))), some (.ol (F.map qD ++ [qD (mnF m r)])), some (.p (.int x)), some (.p (qD (mnF m r))), some (.p (qD y))], rfl, by
        simp only [tstV_ap, eBin_ap, eVar_ap, List.getElem?_cons_zero, List.getElem?_cons_succ, and_ok, ne_qD, opt_some, asB_b]
        rfl, fun _ => rfl⟩)
      have hnl := ne_len u3 f1'
      refine ⟨[some (.p (.list (r.map qD))), some (.ol (F.map qD)), some (.p (.int x)), x3, x4], [some (.p (.list ((r.filter (nqB (mnF m r))).map qD))), some (.ol (F.map qD ++ [qD (mnF m r)])), some (.p (.int x)), some (.p (qD (mnF m r))), y4], rfl, ?_, F ++ [mnF m r], r.filter (nqB (mnF m r)), some (.p (.int x)), some (.p (qD (mnF m r))), y4, ?_, ?_, ?_, ?_, ?_, ?_, ?_⟩
      · unfold bSel
        refine seq_go (ρ' := [some (.p (.list (r.map qD))), some (.ol (F.map qD)), some (.p (.int x)), some (.p (qD m)), x4]) (dc' := dc) ((set_go ei).trans rfl) ?_
        refine seq_go eM ?_
        refine seq_go (ρ' := [some (.p (.list (r.map qD))), some (.ol (F.map qD ++ [qD (mnF m r)])), some (.p (.int x)), some (.p (qD (mnF m r))), y4]) (dc' := dc) ((app_ok (d := qD (mnF m r)) rfl rfl (by rw [List.length_map]; omega)).trans rfl) ?_
        exact (set_go ec).trans rfl
      · rw [List.map_append]
        rfl
      · rw [List.length_append, List.length_append, hF]
        rfl
      · rw [List.length_append, List.length_singleton]
        omega
      · refine List.pairwise_append.mpr ⟨u1, List.pairwise_singleton _ _, fun a ha b hb => ?_⟩
        rw [List.mem_singleton.mp hb]
        exact u2 a ha _ f1'
      · intro a ha b hb
        obtain ⟨hb1, hb2⟩ := List.mem_filter.mp hb
        rcases List.mem_append.mp ha with z | z
        · exact u2 a z b hb1
        · rw [List.mem_singleton.mp z]
          have hne : b ≠ mnF m r := fun e => by
            unfold nqB at hb2
            rw [decide_eq_true e] at hb2
            cases hb2
          rcases Classical.em (ltF (mnF m r) b) with w | w
          · exact w
          · exact absurd (ltF_tri (hrR _ f1') (hrR b hb1) w (f2 b (List.mem_cons_of_mem _ hb1))).symm hne
      · exact u3.filter _
      · intro p
        rw [← u4 p, List.mem_append, List.mem_singleton, List.mem_filter]
        constructor
        · rintro ((h | h) | ⟨h, _⟩)
          · exact .inl h
          · exact .inr (h ▸ f1')
          · exact .inr h
        · rintro (h | h)
          · exact .inl (.inl h)
          · rcases Classical.em (p = mnF m r) with z | z
            · exact .inl (.inr z)
            · exact .inr ⟨h, by unfold nqB; rw [decide_eq_false z]; rfl⟩) [some (.p (.list (s.map qD))), some (.ol []), none, none, none] ⟨[], s, none, none, none, rfl, rfl, by rw [List.length_nil, Nat.add_zero], .nil, (fun a ha => by cases ha), hnd, fun p => by rw [hmem]; simp⟩
  obtain ⟨ρ', e, F, r, x2, x3, x4, rfl, hF, hr, u1, u2, u3, u4⟩ := L
  rw [List.length_range] at hr
  have er : r = [] := List.eq_nil_of_length_eq_zero (by omega)
  subst er
  obtain ⟨v1, v2⟩ := srt_facts hR
  have eFs : F = srt l := up_unique (fun p hp => hR p ((u4 p).mp (.inl hp))) (fun p hp => hR p ((v2 p).mp hp)) u1 v1 fun p => by
    rw [v2, ← u4 p]
    simp
  have eI : it1 (eCall vLen (aCons (eVar 0) aNil)) [some (.p (.list (s.map qD))), some (.ol []), none, none, none] dc = .ok ((List.range s.length).map (fun i : Nat => PyData.int i), dc) := it1_n (by simp only [and_ok, and_exn, and_stuck, opt_some, bind_ap, thn_ap, ret_ap, sopt_ap, eP_ap, eVar_ap, eBin_ap, eUn_ap, eChain_ap, chK_t, chK_f, aNil_ap, aCons_ap, eCall_ap, tstV_ap, asB_b, tAnd_ap, tOr_ap, tNot_ap, eAnd_ap, eOr_ap, eNot_ap, eIf_ap, eApp_ap, eAppK_ap, argB_p1, argB_p2, argB_p3, argB_p4, argB_p5, argB_d1, argB_d2, argB_s2, argB_f2, eAll_ap, eComp_ap, itS_ap, itF_ap, frD, tgN_ap, tgT_ap, seq_ap, sNx_ap, sIf_ap, sRet_ap, rtK_some, sSet_ap, setK_some, sFor_ap, unp_ap, unK_2, unK_3, fnK_rt, fnK_nx, fnK_exn, fnM_ap, List.getElem?_cons_zero, List.getElem?_cons_succ, List.map_cons, List.map_nil, List.length_cons, List.length_nil, List.length_map, List.replicate, List.append_nil, List.cons_append, List.nil_append, Option.map_some, Option.map_none, Option.bind_some, Option.bind_none, if_true, if_false, ite_true, ite_false, Bool.false_eq_true, Bool.true_eq_false, reduceCtorEq, isi_t, len_t, len_l, vLe, vLt, vGt, vGe, vAdd, vSub, sq_t, sq_l, wipeR, Val.ice, Val.frz, datas, Bool.not_true, Bool.not_false, setAll, List.set_cons_zero, List.set_cons_succ, List.set_nil, Nat.reduceAdd, Nat.reduceSub, Nat.reduceLeDiff, decide_true]) (by omega)
  have sF : sFor (it1 (eCall vLen (aCons (eVar 0) aNil))) (tgN 2) bSel [some (.p (.list (s.map qD))), some (.ol []), none, none, none] dc = .ok (.nx, [some (.p (.list (([] : List (Nat × Nat)).map qD))), some (.ol (F.map qD)), x2, x3, x4], dc) := by
    rw [sFor_ap, eI, and_ok]
    exact e
  have sE : sb__law_sorted [some (.p (.list (l.map qD))), none, none, none, none] dc = .ok (.rt (.p (.tuple ((srt l).map qD))), [some (.p (.list (([] : List (Nat × Nat)).map qD))), some (.ol (F.map qD)), x2, x3, x4], dc) := by
    refine seq_go sP ?_
    refine seq_go sF ?_
    rw [← eFs]
    rfl
  exact fn_go sE
end

end K02

set_option maxHeartbeats 4000000
namespace K02
open PySem PySem.Spec PyProof.Rows L2 DL
/-! ### tunings -/
section
variable {dc : Dc}
structure Tn (t : List (Nat × Nat)) : Prop where
  hd : ∃ r, t = (1, 1) :: r
  le : t.length ≤ 12
  up : t.Pairwise ltF
  el : ∀ p ∈ t, Red p ∧ p.2 ≤ p.1 ∧ p.1 < 2 * p.2 ∧ p.1 ≤ 1000000000 ∧ p.2 ≤ 1000000000
abbrev tD (t : List (Nat × Nat)) : PyData := .tuple (t.map qD)
theorem Tn.pos {t : List (Nat × Nat)} (h : Tn t) : 0 < t.length := by
  obtain ⟨r, e⟩ := h.hd
  rw [e]
  exact Nat.succ_pos _
theorem bd9 {n : Nat} (h : n ≤ 1000000000) : Bd 30 n := by
  unfold Bd
  omega
theorem bd_1 : Bd 30 1 := by
  unfold Bd
  decide
theorem is_fraction_ok {p : Nat × Nat} (h : Red p) (h1 : p.1 ≤ 1000000000) (h2 : p.2 ≤ 1000000000) : fm_is_fraction [.p (qD p), .p (.int 1000000000), .p (.int 1000000000)] dc = .ok (.p (.bool true), dc) := by
  have a0 : (if (p.1 : Int) < 0 then -(p.1 : Int) else (p.1 : Int)) = (p.1 : Int) := if_neg (by omega)
  have a1 : decide ((p.1 : Int) ≤ 1000000000) = true := decide_eq_true (by omega)
  have a2 : decide ((1 : Int) ≤ (p.2 : Int)) = true := decide_eq_true (by have := h.2.1; omega)
  have a3 : decide ((p.2 : Int) ≤ 1000000000) = true := decide_eq_true (by omega)
  have key : ∀ x0 x1 x2 x3, allD (tgN 3) (eApp 1 fm_is_integer (aCons (eVar 3) aNil)) [PyData.int (p.1 : Nat), .int (p.2 : Nat)] [x0, x1, x2, x3] dc = .ok (.p (.bool true), dc) := by
    intro x0 x1 x2 x3
    refine allD_true _ fun x hx => ?_
    refine ⟨[x0, x1, x2, some (.p x)], rfl, ?_⟩
    have : isI x = true := by
      rcases List.mem_cons.mp hx with rfl | hx
      · rfl
      · rcases List.mem_cons.mp hx with rfl | hx
        · rfl
        · cases hx
    simp only [and_ok, and_exn, and_stuck, opt_some, bind_ap, thn_ap, ret_ap, sopt_ap, eP_ap, eVar_ap, eBin_ap, eUn_ap, eChain_ap, chK_t, chK_f, aNil_ap, aCons_ap, eCall_ap, tstV_ap, asB_b, tAnd_ap, tOr_ap, tNot_ap, eAnd_ap, eOr_ap, eNot_ap, eIf_ap, eApp_ap, eAppK_ap, argB_p1, argB_p2, argB_p3, argB_p4, argB_p5, argB_d1, argB_d2, argB_s2, argB_f2, eAll_ap, eComp_ap, itS_ap, itF_ap, frD, tgN_ap, tgT_ap, seq_ap, sNx_ap, sIf_ap, sRet_ap, rtK_some, sSet_ap, setK_some, sFor_ap, unp_ap, unK_2, unK_3, fnK_rt, fnK_nx, fnK_exn, fnM_ap, List.getElem?_cons_zero, List.getElem?_cons_succ, List.map_cons, List.map_nil, List.length_cons, List.length_nil, List.length_map, List.replicate, List.append_nil, List.cons_append, List.nil_append, Option.map_some, Option.map_none, Option.bind_some, Option.bind_none, if_true, if_false, ite_true, ite_false, Bool.false_eq_true, Bool.true_eq_false, reduceCtorEq, isi_t, len_t, len_l, vLe, vLt, vGt, vGe, vAdd, vSub, sq_t, sq_l, wipeR, Val.ice, Val.frz, datas, Bool.not_true, Bool.not_false, setAll, List.set_cons_zero, List.set_cons_succ, List.set_nil, Nat.reduceAdd, Nat.reduceSub, Nat.reduceLeDiff, decide_true, is_integer_eq, this]
  have er := ratio_N (dc := dc) (a := p.1) h.2.1 (by decide) (bd9 h2) (by decide)
  rw [fr_self h] at er
  have eq := eq_qD p p
  rw [decide_eq_true rfl] at eq
  have e2 : ((((0 : Nat) + 1 + 1 : Nat) : Int) == 2) = true := by decide
  unfold qD pD at eq
  unfold fm_is_fraction sb_is_fraction
  unfold qD pD at er ⊢
  simp only [and_ok, and_exn, and_stuck, opt_some, bind_ap, thn_ap, ret_ap, sopt_ap, eP_ap, eVar_ap, eBin_ap, eUn_ap, eChain_ap, chK_t, chK_f, aNil_ap, aCons_ap, eCall_ap, tstV_ap, asB_b, tAnd_ap, tOr_ap, tNot_ap, eAnd_ap, eOr_ap, eNot_ap, eIf_ap, eApp_ap, eAppK_ap, argB_p1, argB_p2, argB_p3, argB_p4, argB_p5, argB_d1, argB_d2, argB_s2, argB_f2, eAll_ap, eComp_ap, itS_ap, itF_ap, frD, tgN_ap, tgT_ap, seq_ap, sNx_ap, sIf_ap, sRet_ap, rtK_some, sSet_ap, setK_some, sFor_ap, unp_ap, unK_2, unK_3, fnK_rt, fnK_nx, fnK_exn, fnM_ap, List.getElem?_cons_zero, List.getElem?_cons_succ, List.map_cons, List.map_nil, List.length_cons, List.length_nil, List.length_map, List.replicate, List.append_nil, List.cons_append, List.nil_append, Option.map_some, Option.map_none, Option.bind_some, Option.bind_none, if_true, if_false, ite_true, ite_false, Bool.false_eq_true, Bool.true_eq_false, reduceCtorEq, isi_t, len_t, len_l, vLe, vLt, vGt, vGe, vAdd, vSub, sq_t, sq_l, wipeR, Val.ice, Val.frz, datas, Bool.not_true, Bool.not_false, setAll, List.set_cons_zero, List.set_cons_succ, List.set_nil, Nat.reduceAdd, Nat.reduceSub, Nat.reduceLeDiff, decide_true, vNe_int, ix_t, at_0, at_1, vAbs, a0, a1, a2, a3, key, e2, er, eq]
theorem is_tuning_ok {t : List (Nat × Nat)} (T : Tn t) : fm_is_tuning [.p (tD t)] dc = .ok (.p (.bool true), dc) := by
  have hp := T.pos
  have hl := T.le
  have a1 : decide ((1 : Int) ≤ (t.length : Int)) = true := decide_eq_true (by omega)
  have a2 : decide ((t.length : Int) ≤ 12) = true := decide_eq_true (by omega)
  have k1 : ∀ x0 x1 x2 x3, allD (tgN 3) (eApp 3 fm_is_fraction (aCons (eVar 3) (aCons (eP (.int 1000000000)) (aCons (eP (.int 1000000000)) aNil)))) (t.map qD) [x0, x1, x2, x3] dc = .ok (.p (.bool true), dc) := by
    intro x0 x1 x2 x3
    refine allD_true _ fun x hx => ?_
    obtain ⟨p, hpm, rfl⟩ := List.mem_map.mp hx
    obtain ⟨b1, b2, b3, b4, b5⟩ := T.el p hpm
    refine ⟨[x0, x1, x2, some (.p (qD p))], rfl, ?_⟩
    have e := is_fraction_ok (dc := dc) b1 b4 b5
    simp only [eApp_ap, aCons_ap, aNil_ap, eVar_ap, eP_ap, List.getElem?_cons_zero, List.getElem?_cons_succ, and_ok, argB_p3, e]
  have k2 : ∀ x1 x2 x3, allD (tgN 2) (eApp 2 fm_is_less (aCons (eBin vIx (eVar 0) (eBin vSub (eVar 2) (eP (.int 1)))) (aCons (eBin vIx (eVar 0) (eVar 2)) aNil))) (r1L t.length) [some (.p (tD t)), x1, x2, x3] dc = .ok (.p (.bool true), dc) := by
    intro x1 x2 x3
    refine allD_true _ fun x hx => ?_
    obtain ⟨i, hi, rfl⟩ := List.mem_map.mp hx
    have hi := List.mem_range.mp hi
    have l1 : i < (t.map qD).length := by rw [List.length_map]; omega
    have l2 : i + 1 < (t.map qD).length := by rw [List.length_map]; omega
    have e1 : (((i + 1 : Nat) : Int) - 1) = (i : Int) := by omega
    have hs := List.pairwise_iff_getElem.mp T.up i (i + 1) (by omega) (by omega) (Nat.lt_succ_self i)
    have m1 := T.el _ (List.getElem_mem (show i < t.length by omega))
    have m2 := T.el _ (List.getElem_mem (show i + 1 < t.length by omega))
    refine ⟨[some (.p (tD t)), x1, some (.p (.int ((i + 1 : Nat) : Int))), x3], rfl, ?_⟩
    have g1 : vIx (.p (tD t)) (.p (.int (i : Int))) = some (.p (qD (t[i]'(by omega)))) := by rw [ix_t, at_nat l1, List.getElem_map]; rfl
    have g2 : vIx (.p (tD t)) (.p (.int ((i + 1 : Nat) : Int))) = some (.p (qD (t[i + 1]'(by omega)))) := by rw [ix_t, at_nat l2, List.getElem_map]; rfl
    have g3 : vSub (.p (.int ((i + 1 : Nat) : Int))) (.p (.int 1)) = some (.p (.int (i : Int))) := by show some (Val.p (.int (((i + 1 : Nat) : Int) - 1))) = _; rw [e1]
    have g4 := is_less_eq (dc := dc) (k := 30) (by decide) (by decide) (p := t[i]'(by omega)) (q := t[i + 1]'(by omega)) ⟨bd9 m1.2.2.2.1, bd9 m1.2.2.2.2⟩ ⟨bd9 m2.2.2.2.1, bd9 m2.2.2.2.2⟩
    rw [ltB_iff.mpr hs] at g4
    simp only [eApp_ap, aCons_ap, aNil_ap, eBin_ap, eVar_ap, eP_ap, List.getElem?_cons_zero, List.getElem?_cons_succ, and_ok, opt_some, g3, g1, g2, argB_p2, g4]
  have e2 : ∀ ρ : Rho, ∀ x1 x2 x3, ρ = [some (.p (tD t)), x1, x2, x3] → it2 (eP (.int 1)) (eCall vLen (aCons (eVar 0) aNil)) ρ dc = .ok (r1L t.length, dc) := by
    rintro _ x1 x2 x3 rfl
    refine it2_1 _ _ _ _ rfl ?_ (by omega)
    simp only [and_ok, and_exn, and_stuck, opt_some, bind_ap, thn_ap, ret_ap, sopt_ap, eP_ap, eVar_ap, eBin_ap, eUn_ap, eChain_ap, chK_t, chK_f, aNil_ap, aCons_ap, eCall_ap, tstV_ap, asB_b, tAnd_ap, tOr_ap, tNot_ap, eAnd_ap, eOr_ap, eNot_ap, eIf_ap, eApp_ap, eAppK_ap, argB_p1, argB_p2, argB_p3, argB_p4, argB_p5, argB_d1, argB_d2, argB_s2, argB_f2, eAll_ap, eComp_ap, itS_ap, itF_ap, frD, tgN_ap, tgT_ap, seq_ap, sNx_ap, sIf_ap, sRet_ap, rtK_some, sSet_ap, setK_some, sFor_ap, unp_ap, unK_2, unK_3, fnK_rt, fnK_nx, fnK_exn, fnM_ap, List.getElem?_cons_zero, List.getElem?_cons_succ, List.map_cons, List.map_nil, List.length_cons, List.length_nil, List.length_map, List.replicate, List.append_nil, List.cons_append, List.nil_append, Option.map_some, Option.map_none, Option.bind_some, Option.bind_none, if_true, if_false, ite_true, ite_false, Bool.false_eq_true, Bool.true_eq_false, reduceCtorEq, isi_t, len_t, len_l, vLe, vLt, vGt, vGe, vAdd, vSub, sq_t, sq_l, wipeR, Val.ice, Val.frz, datas, Bool.not_true, Bool.not_false, setAll, List.set_cons_zero, List.set_cons_succ, List.set_nil, Nat.reduceAdd, Nat.reduceSub, Nat.reduceLeDiff, decide_true]
  have i0 : vIx (.p (tD t)) (.p (.int 0)) = some (.p (qD (1, 1))) := by
    obtain ⟨r, e⟩ := T.hd
    rw [e, ix_t, List.map_cons, at_0]
    rfl
  have n0 := ne_qD (1, 1) (1, 1)
  rw [decide_eq_true rfl] at n0
  have hlast : t.length - 1 < t.length := by omega
  have i9 : vIx (.p (tD t)) (.p (.int ((t.length : Int) - 1))) = some (.p (qD (t[t.length - 1]))) := by
    have e : ((t.length : Int) - 1) = ((t.length - 1 : Nat) : Int) := by omega
    rw [e, ix_t, at_nat (by rw [List.length_map]; exact hlast), List.getElem_map]
    rfl
  have m9 := T.el _ (List.getElem_mem hlast)
  have x0 := ix0_q (t[t.length - 1])
  have x1 := ix1_q (t[t.length - 1])
  have mm := mul_N (i := 2) (j := (t[t.length - 1]).2) (k := 2) (l := 30) (by decide) (by decide) two_B (bd9 m9.2.2.2.2) (by decide)
  have l9 := lt_N (t[t.length - 1]).1 (2 * (t[t.length - 1]).2)
  rw [decide_eq_true m9.2.2.1] at l9
  have mm' : vMul (.p (.int 2)) (.p (.int ((t[t.length - 1]).2 : Nat))) = some (.p (.int ((2 * (t[t.length - 1]).2 : Nat) : Int))) := mm
  have sE : sb_is_tuning [some (.p (tD t)), none, none, none] dc = .ok (.rt (.p (.bool true)), [some (.p (tD t)), some (.p (qD (t[t.length - 1]))), none, none], dc) := by
    refine seq_go (dc' := dc) (if_no ?_) ?_
    · simp only [and_ok, and_exn, and_stuck, opt_some, bind_ap, thn_ap, ret_ap, sopt_ap, eP_ap, eVar_ap, eBin_ap, eUn_ap, eChain_ap, chK_t, chK_f, aNil_ap, aCons_ap, eCall_ap, tstV_ap, asB_b, tAnd_ap, tOr_ap, tNot_ap, eAnd_ap, eOr_ap, eNot_ap, eIf_ap, eApp_ap, eAppK_ap, argB_p1, argB_p2, argB_p3, argB_p4, argB_p5, argB_d1, argB_d2, argB_s2, argB_f2, eAll_ap, eComp_ap, itS_ap, itF_ap, frD, tgN_ap, tgT_ap, seq_ap, sNx_ap, sIf_ap, sRet_ap, rtK_some, sSet_ap, setK_some, sFor_ap, unp_ap, unK_2, unK_3, fnK_rt, fnK_nx, fnK_exn, fnM_ap, List.getElem?_cons_zero, List.getElem?_cons_succ, List.map_cons, List.map_nil, List.length_cons, List.length_nil, List.length_map, List.replicate, List.append_nil, List.cons_append, List.nil_append, Option.map_some, Option.map_none, Option.bind_some, Option.bind_none, if_true, if_false, ite_true, ite_false, Bool.false_eq_true, Bool.true_eq_false, reduceCtorEq, isi_t, len_t, len_l, vLe, vLt, vGt, vGe, vAdd, vSub, sq_t, sq_l, wipeR, Val.ice, Val.frz, datas, Bool.not_true, Bool.not_false, setAll, List.set_cons_zero, List.set_cons_succ, List.set_nil, Nat.reduceAdd, Nat.reduceSub, Nat.reduceLeDiff, decide_true, a1, a2]
    · refine seq_go (dc' := dc) (if_no (dc' := dc) ?_) ?_
      · have et : tstV (eAll (itS (eVar 0)) 3 (eApp 3 fm_is_fraction (aCons (eVar 3) (aCons (eP (.int 1000000000)) (aCons (eP (.int 1000000000)) aNil))))) [some (.p (tD t)), none, none, none] dc = .ok (true, dc) := by
          rw [tstV_ap, eAll_ap]
          show ((allD _ _ (t.map qD) [some (.p (tD t)), none, none, none] dc)).andThen _ = _
          rw [k1]
          rfl
        rw [tOr_ap, tNot_ap, et]
        show tstV (eBin vNe (eBin vIx (eVar 0) (eP (.int 0))) (eTup (aCons (eP (.int 1)) (aCons (eP (.int 1)) aNil)))) [some (.p (tD t)), none, none, none] dc = _
        rw [tstV_ap, eBin_ap, eBin_ap]
        show (((Res.opt dc (vIx (.p (tD t)) (.p (.int 0))))).andThen fun p => (Res.ok (Val.p (qD (1, 1)), p.2)).andThen fun q => Res.opt q.2 (vNe p.1 q.1)).andThen _ = _
        rw [i0, opt_some, and_ok, and_ok, n0]
        rfl
      · refine seq_go (ρ' := [some (.p (tD t)), some (.p (qD (t[t.length - 1]))), none, none]) (dc' := dc) ((set_go (d := qD (t[t.length - 1])) (dc' := dc) ?_).trans rfl) (ret_go ?_)
        · have ev : vSub (.p (.int (t.length : Nat))) (.p (.int 1)) = some (.p (.int ((t.length : Int) - 1))) := rfl
          simp only [eBin_ap, eCall_ap, aCons_ap, aNil_ap, eVar_ap, eP_ap, List.getElem?_cons_zero, and_ok, len_t, List.length_map, opt_some, ev, i9]
        · have ea : eAll (it2 (eP (.int 1)) (eCall vLen (aCons (eVar 0) aNil))) 2 (eApp 2 fm_is_less (aCons (eBin vIx (eVar 0) (eBin vSub (eVar 2) (eP (.int 1)))) (aCons (eBin vIx (eVar 0) (eVar 2)) aNil))) [some (.p (tD t)), some (.p (qD (t[t.length - 1]))), none, none] dc = .ok (.p (.bool true), dc) := by
            rw [eAll_ap, e2 _ _ _ _ rfl, and_ok]
            exact k2 _ _ _
          rw [eAnd_ap, tstV_ap]
          simp only [eBin_ap, eVar_ap, eP_ap, List.getElem?_cons_zero, List.getElem?_cons_succ, and_ok, x0, x1, opt_some, mm', l9, asB_b, if_true]
          exact ea
  exact fn_go sE
theorem need_tuning_t {d : PyData} {n : Str} (h : fm_is_tuning [.p d] dc = .ok (.p (.bool true), dc)) : fm_need_tuning [.p d, .p (.str n)] dc = .ok (.p .none, dc) := by
  unfold fm_need_tuning sb_need_tuning
  simp only [and_ok, and_exn, and_stuck, opt_some, bind_ap, thn_ap, ret_ap, sopt_ap, eP_ap, eVar_ap, eBin_ap, eUn_ap, eChain_ap, chK_t, chK_f, aNil_ap, aCons_ap, eCall_ap, tstV_ap, asB_b, tAnd_ap, tOr_ap, tNot_ap, eAnd_ap, eOr_ap, eNot_ap, eIf_ap, eApp_ap, eAppK_ap, argB_p1, argB_p2, argB_p3, argB_p4, argB_p5, argB_d1, argB_d2, argB_s2, argB_f2, eAll_ap, eComp_ap, itS_ap, itF_ap, frD, tgN_ap, tgT_ap, seq_ap, sNx_ap, sIf_ap, sRet_ap, rtK_some, sSet_ap, setK_some, sFor_ap, unp_ap, unK_2, unK_3, fnK_rt, fnK_nx, fnK_exn, fnM_ap, List.getElem?_cons_zero, List.getElem?_cons_succ, List.map_cons, List.map_nil, List.length_cons, List.length_nil, List.length_map, List.replicate, List.append_nil, List.cons_append, List.nil_append, Option.map_some, Option.map_none, Option.bind_some, Option.bind_none, if_true, if_false, ite_true, ite_false, Bool.false_eq_true, Bool.true_eq_false, reduceCtorEq, isi_t, len_t, len_l, vLe, vLt, vGt, vGe, vAdd, vSub, sq_t, sq_l, wipeR, Val.ice, Val.frz, datas, Bool.not_true, Bool.not_false, setAll, List.set_cons_zero, List.set_cons_succ, List.set_nil, Nat.reduceAdd, Nat.reduceSub, Nat.reduceLeDiff, decide_true, h]
theorem need_tuning_f {d : PyData} {n : Str} (hn : n.length ≤ 1000) (h : fm_is_tuning [.p d] dc = .ok (.p (.bool false), dc)) : fm_need_tuning [.p d, .p (.str n)] dc = .exn n := by
  have hb : ∀ x0, sBad (aCons (eVar 1) aNil) [x0, some (.p (.str n))] dc = .exn n := fun x0 => bad_ap dc hn rfl
  unfold fm_need_tuning sb_need_tuning
  simp only [and_ok, and_exn, and_stuck, opt_some, bind_ap, thn_ap, ret_ap, sopt_ap, eP_ap, eVar_ap, eBin_ap, eUn_ap, eChain_ap, chK_t, chK_f, aNil_ap, aCons_ap, eCall_ap, tstV_ap, asB_b, tAnd_ap, tOr_ap, tNot_ap, eAnd_ap, eOr_ap, eNot_ap, eIf_ap, eApp_ap, eAppK_ap, argB_p1, argB_p2, argB_p3, argB_p4, argB_p5, argB_d1, argB_d2, argB_s2, argB_f2, eAll_ap, eComp_ap, itS_ap, itF_ap, frD, tgN_ap, tgT_ap, seq_ap, sNx_ap, sIf_ap, sRet_ap, rtK_some, sSet_ap, setK_some, sFor_ap, unp_ap, unK_2, unK_3, fnK_rt, fnK_nx, fnK_exn, fnM_ap, List.getElem?_cons_zero, List.getElem?_cons_succ, List.map_cons, List.map_nil, List.length_cons, List.length_nil, List.length_map, List.replicate, List.append_nil, List.cons_append, List.nil_append, Option.map_some, Option.map_none, Option.bind_some, Option.bind_none, if_true, if_false, ite_true, ite_false, Bool.false_eq_true, Bool.true_eq_false, reduceCtorEq, isi_t, len_t, len_l, vLe, vLt, vGt, vGe, vAdd, vSub, sq_t, sq_l, wipeR, Val.ice, Val.frz, datas, Bool.not_true, Bool.not_false, setAll, List.set_cons_zero, List.set_cons_succ, List.set_nil, Nat.reduceAdd, Nat.reduceSub, Nat.reduceLeDiff, decide_true, h, hb]
theorem need_int_t {i lo hi : Int} {s : Str} (h0 : lo ≤ i) (h1 : i ≤ hi) : fm_need_integer [.p (.int i), .p (.str s), .p (.int lo), .p (.int hi)] dc = .ok (.p .none, dc) := by
  have c1 : decide (i < lo) = false := decide_eq_false (by omega)
  have c2 : decide (hi < i) = false := decide_eq_false (by omega)
  unfold fm_need_integer sb_need_integer
  simp only [and_ok, and_exn, and_stuck, opt_some, bind_ap, thn_ap, ret_ap, sopt_ap, eP_ap, eVar_ap, eBin_ap, eUn_ap, eChain_ap, chK_t, chK_f, aNil_ap, aCons_ap, eCall_ap, tstV_ap, asB_b, tAnd_ap, tOr_ap, tNot_ap, eAnd_ap, eOr_ap, eNot_ap, eIf_ap, eApp_ap, eAppK_ap, argB_p1, argB_p2, argB_p3, argB_p4, argB_p5, argB_d1, argB_d2, argB_s2, argB_f2, eAll_ap, eComp_ap, itS_ap, itF_ap, frD, tgN_ap, tgT_ap, seq_ap, sNx_ap, sIf_ap, sRet_ap, rtK_some, sSet_ap, setK_some, sFor_ap, unp_ap, unK_2, unK_3, fnK_rt, fnK_nx, fnK_exn, fnM_ap, List.getElem?_cons_zero, List.getElem?_cons_succ, List.map_cons, List.map_nil, List.length_cons, List.length_nil, List.length_map, List.replicate, List.append_nil, List.cons_append, List.nil_append, Option.map_some, Option.map_none, Option.bind_some, Option.bind_none, if_true, if_false, ite_true, ite_false, Bool.false_eq_true, Bool.true_eq_false, reduceCtorEq, isi_t, len_t, len_l, vLe, vLt, vGt, vGe, vAdd, vSub, sq_t, sq_l, wipeR, Val.ice, Val.frz, datas, Bool.not_true, Bool.not_false, setAll, List.set_cons_zero, List.set_cons_succ, List.set_nil, Nat.reduceAdd, Nat.reduceSub, Nat.reduceLeDiff, decide_true, is_integer_eq, isI_int, c1, c2]
theorem need_int_f {d : PyData} {lo hi : Int} {s : Str} (hs : s.length ≤ 1000) (h : isI d = false ∨ ∃ i, d = .int i ∧ (i < lo ∨ hi < i)) : fm_need_integer [.p d, .p (.str s), .p (.int lo), .p (.int hi)] dc = .exn s := by
  have hb : ∀ x0 x2 x3, sBad (aCons (eVar 1) aNil) [x0, some (.p (.str s)), x2, x3] dc = .exn s := fun _ _ _ => bad_ap dc hs rfl
  unfold fm_need_integer sb_need_integer
  rcases h with h | ⟨i, rfl, h⟩
  · simp only [and_ok, and_exn, and_stuck, opt_some, bind_ap, thn_ap, ret_ap, sopt_ap, eP_ap, eVar_ap, eBin_ap, eUn_ap, eChain_ap, chK_t, chK_f, aNil_ap, aCons_ap, eCall_ap, tstV_ap, asB_b, tAnd_ap, tOr_ap, tNot_ap, eAnd_ap, eOr_ap, eNot_ap, eIf_ap, eApp_ap, eAppK_ap, argB_p1, argB_p2, argB_p3, argB_p4, argB_p5, argB_d1, argB_d2, argB_s2, argB_f2, eAll_ap, eComp_ap, itS_ap, itF_ap, frD, tgN_ap, tgT_ap, seq_ap, sNx_ap, sIf_ap, sRet_ap, rtK_some, sSet_ap, setK_some, sFor_ap, unp_ap, unK_2, unK_3, fnK_rt, fnK_nx, fnK_exn, fnM_ap, List.getElem?_cons_zero, List.getElem?_cons_succ, List.map_cons, List.map_nil, List.length_cons, List.length_nil, List.length_map, List.replicate, List.append_nil, List.cons_append, List.nil_append, Option.map_some, Option.map_none, Option.bind_some, Option.bind_none, if_true, if_false, ite_true, ite_false, Bool.false_eq_true, Bool.true_eq_false, reduceCtorEq, isi_t, len_t, len_l, vLe, vLt, vGt, vGe, vAdd, vSub, sq_t, sq_l, wipeR, Val.ice, Val.frz, datas, Bool.not_true, Bool.not_false, setAll, List.set_cons_zero, List.set_cons_succ, List.set_nil, Nat.reduceAdd, Nat.reduceSub, Nat.reduceLeDiff, decide_true, is_integer_eq, h, hb]
  · by_cases c : i < lo
    · have c1 : decide (i < lo) = true := decide_eq_true c
      simp only [and_ok, and_exn, and_stuck, opt_some, bind_ap, thn_ap, ret_ap, sopt_ap, eP_ap, eVar_ap, eBin_ap, eUn_ap, eChain_ap, chK_t, chK_f, aNil_ap, aCons_ap, eCall_ap, tstV_ap, asB_b, tAnd_ap, tOr_ap, tNot_ap, eAnd_ap, eOr_ap, eNot_ap, eIf_ap, eApp_ap, eAppK_ap, argB_p1, argB_p2, argB_p3, argB_p4, argB_p5, argB_d1, argB_d2, argB_s2, argB_f2, eAll_ap, eComp_ap, itS_ap, itF_ap, frD, tgN_ap, tgT_ap, seq_ap, sNx_ap, sIf_ap, sRet_ap, rtK_some, sSet_ap, setK_some, sFor_ap, unp_ap, unK_2, unK_3, fnK_rt, fnK_nx, fnK_exn, fnM_ap, List.getElem?_cons_zero, List.getElem?_cons_succ, List.map_cons, List.map_nil, List.length_cons, List.length_nil, List.length_map, List.replicate, List.append_nil, List.cons_append, List.nil_append, Option.map_some, Option.map_none, Option.bind_some, Option.bind_none, if_true, if_false, ite_true, ite_false, Bool.false_eq_true, Bool.true_eq_false, reduceCtorEq, isi_t, len_t, len_l, vLe, vLt, vGt, vGe, vAdd, vSub, sq_t, sq_l, wipeR, Val.ice, Val.frz, datas, Bool.not_true, Bool.not_false, setAll, List.set_cons_zero, List.set_cons_succ, List.set_nil, Nat.reduceAdd, Nat.reduceSub, Nat.reduceLeDiff, decide_true, is_integer_eq, isI_int, c1, hb]
    · have c1 : decide (i < lo) = false := decide_eq_false c
      have c2 : decide (hi < i) = true := decide_eq_true (by omega)
      simp only [and_ok, and_exn, and_stuck, opt_some, bind_ap, thn_ap, ret_ap, sopt_ap, eP_ap, eVar_ap, eBin_ap, eUn_ap, eChain_ap, chK_t, chK_f, aNil_ap, aCons_ap, eCall_ap, tstV_ap, asB_b, tAnd_ap, tOr_ap, tNot_ap, eAnd_ap, eOr_ap, eNot_ap, eIf_ap, eApp_ap, eAppK_ap, argB_p1, argB_p2, argB_p3, argB_p4, argB_p5, argB_d1, argB_d2, argB_s2, argB_f2, eAll_ap, eComp_ap, itS_ap, itF_ap, frD, tgN_ap, tgT_ap, seq_ap, sNx_ap, sIf_ap, sRet_ap, rtK_some, sSet_ap, setK_some, sFor_ap, unp_ap, unK_2, unK_3, fnK_rt, fnK_nx, fnK_exn, fnM_ap, List.getElem?_cons_zero, List.getElem?_cons_succ, List.map_cons, List.map_nil, List.length_cons, List.length_nil, List.length_map, List.replicate, List.append_nil, List.cons_append, List.nil_append, Option.map_some, Option.map_none, Option.bind_some, Option.bind_none, if_true, if_false, ite_true, ite_false, Bool.false_eq_true, Bool.true_eq_false, reduceCtorEq, isi_t, len_t, len_l, vLe, vLt, vGt, vGe, vAdd, vSub, sq_t, sq_l, wipeR, Val.ice, Val.frz, datas, Bool.not_true, Bool.not_false, setAll, List.set_cons_zero, List.set_cons_succ, List.set_nil, Nat.reduceAdd, Nat.reduceSub, Nat.reduceLeDiff, decide_true, is_integer_eq, isI_int, c1, c2, hb]
/-! ### powers -/
theorem pow_B {k a : Nat} (h : Bd k a) : ∀ n, Bd (k * n + 1) (a ^ n)
  | 0 => by unfold Bd; rw [Nat.mul_zero, Nat.pow_zero]; decide
  | n + 1 => by
    have := (pow_B h n).mul h
    rw [Nat.pow_succ]
    exact this.mono (by rw [Nat.mul_add]; omega)
theorem power_eq {a n k : Nat} (hk : 0 < k) (hk2 : k ≤ 100) (ha : Bd k a) (hn : n ≤ 100) : fm_power [.p (.int (a : Nat)), .p (.int (n : Nat))] dc = .ok (.p (.int ((a ^ n : Nat) : Int)), dc) := by
  have L := forD_pre (dc := dc) (tg := tgN 3) (g := fun i : Nat => PyData.int i) (l := List.range n) (body := sAug 2 vMul (eVar 0)) (I := fun d ρ => ∃ x3, ρ = [some (.p (.int (a : Nat))), some (.p (.int (n : Nat))), some (.p (.int ((a ^ d.length : Nat) : Int))), x3]) (fun d x r e ρ ⟨x3, hρ⟩ => by
    subst hρ
    have hd : d.length ≤ 100 := by
      have := congrArg List.length e
      rw [List.length_range, List.length_append] at this
      omega
    have hm : k * d.length ≤ 100 * 100 := Nat.mul_le_mul hk2 hd
    refine ⟨_, _, rfl, aug_ap (x := .int ((a ^ d.length : Nat) : Int)) (v := .int (a : Nat)) (z := .int ((a ^ d.length * a : Nat) : Int)) rfl rfl (mul_N (by omega) hk (pow_B ha d.length) ha (by omega)), some (.p (.int x)), ?_⟩
    rw [List.length_append, List.length_singleton, Nat.pow_succ]
    rfl) [some (.p (.int (a : Nat))), some (.p (.int (n : Nat))), some (.p (.int 1)), none] ⟨none, rfl⟩
  obtain ⟨ρ', e, x3, rfl⟩ := L
  rw [List.length_range] at e
  have eI : it1 (eVar 1) [some (.p (.int (a : Nat))), some (.p (.int (n : Nat))), some (.p (.int 1)), none] dc = .ok ((List.range n).map (fun i : Nat => PyData.int i), dc) := it1_n rfl (by omega)
  have sE : sb_power [some (.p (.int (a : Nat))), some (.p (.int (n : Nat))), none, none] dc = .ok (.rt (.p (.int ((a ^ n : Nat) : Int))), [some (.p (.int (a : Nat))), some (.p (.int (n : Nat))), some (.p (.int ((a ^ n : Nat) : Int))), x3], dc) := by
    refine seq_go (ρ' := [some (.p (.int (a : Nat))), some (.p (.int (n : Nat))), some (.p (.int 1)), none]) (dc' := dc) rfl (seq_go (ρ' := [some (.p (.int (a : Nat))), some (.p (.int (n : Nat))), some (.p (.int ((a ^ n : Nat) : Int))), x3]) (dc' := dc) ?_ rfl)
    rw [sFor_ap, eI, and_ok]
    exact e
  exact fn_go sE
theorem lpower_eq {a n k : Nat} (hk : 0 < k) (hk2 : k ≤ 100) (ha : Bd k a) (hn : n ≤ 100) : fm__law_power [.p (.int (a : Nat)), .p (.int (n : Nat))] dc = .ok (.p (.int ((a ^ n : Nat) : Int)), dc) := by
  have L := forD_pre (dc := dc) (tg := tgN 3) (g := fun i : Nat => PyData.int i) (l := List.range n) (body := sSet 2 (eBin vMul (eVar 2) (eVar 0))) (I := fun d ρ => ∃ x3, ρ = [some (.p (.int (a : Nat))), some (.p (.int (n : Nat))), some (.p (.int ((a ^ d.length : Nat) : Int))), x3]) (fun d x r e ρ ⟨x3, hρ⟩ => by
    subst hρ
    have hd : d.length ≤ 100 := by
      have := congrArg List.length e
      rw [List.length_range, List.length_append] at this
      omega
    have hm : k * d.length ≤ 100 * 100 := Nat.mul_le_mul hk2 hd
    have em := mul_N (i := a ^ d.length) (j := a) (by omega) hk (pow_B ha d.length) ha (by omega)
    refine ⟨_, _, rfl, set_go (dc' := dc) (d := .int ((a ^ d.length * a : Nat) : Int)) ?_, some (.p (.int x)), ?_⟩
    · show eBin vMul (eVar 2) (eVar 0) [some (.p (.int (a : Nat))), some (.p (.int (n : Nat))), some (.p (.int ((a ^ d.length : Nat) : Int))), some (.p (.int x))] dc = _
      simp only [eBin_ap, eVar_ap, List.getElem?_cons_zero, List.getElem?_cons_succ, and_ok, em, opt_some]
    · rw [List.length_append, List.length_singleton, Nat.pow_succ]
      rfl) [some (.p (.int (a : Nat))), some (.p (.int (n : Nat))), some (.p (.int 1)), none] ⟨none, rfl⟩
  obtain ⟨ρ', e, x3, rfl⟩ := L
  rw [List.length_range] at e
  have eI : it1 (eVar 1) [some (.p (.int (a : Nat))), some (.p (.int (n : Nat))), some (.p (.int 1)), none] dc = .ok ((List.range n).map (fun i : Nat => PyData.int i), dc) := it1_n rfl (by omega)
  have sE : sb__law_power [some (.p (.int (a : Nat))), some (.p (.int (n : Nat))), none, none] dc = .ok (.rt (.p (.int ((a ^ n : Nat) : Int))), [some (.p (.int (a : Nat))), some (.p (.int (n : Nat))), some (.p (.int ((a ^ n : Nat) : Int))), x3], dc) := by
    refine seq_go (ρ' := [some (.p (.int (a : Nat))), some (.p (.int (n : Nat))), some (.p (.int 1)), none]) (dc' := dc) rfl (seq_go (ρ' := [some (.p (.int (a : Nat))), some (.p (.int (n : Nat))), some (.p (.int ((a ^ n : Nat) : Int))), x3]) (dc' := dc) ?_ rfl)
    rw [sFor_ap, eI, and_ok]
    exact e
  exact fn_go sE
/-! ### speeds -/
def sp (t : List (Nat × Nat)) (k : Nat) : Nat × Nat := frN ((t.getD (k % t.length) (1, 1)).1 * 2 ^ (k / t.length)) (t.getD (k % t.length) (1, 1)).2
theorem tone_el {t : List (Nat × Nat)} (T : Tn t) (i : Nat) : Red (t.getD i (1, 1)) ∧ (t.getD i (1, 1)).1 ≤ 1000000000 ∧ (t.getD i (1, 1)).2 ≤ 1000000000 := by
  rw [List.getD_eq_getElem?_getD]
  by_cases h : i < t.length
  · rw [List.getElem?_eq_getElem h]
    obtain ⟨a, b, c, d, e⟩ := T.el _ (List.getElem_mem h)
    exact ⟨a, d, e⟩
  · rw [List.getElem?_eq_none (Nat.le_of_not_lt h)]
    exact ⟨⟨by decide, by decide, by decide⟩, by decide, by decide⟩
theorem sp_facts {t : List (Nat × Nat)} (T : Tn t) {k : Nat} (hk : k ≤ 60) : Red (sp t k) ∧ Bd 93 (sp t k).1 ∧ Bd 30 (sp t k).2 ∧ Bd 93 ((t.getD (k % t.length) (1, 1)).1 * 2 ^ (k / t.length)) := by
  obtain ⟨a, b, c⟩ := tone_el T (k % t.length)
  have hd : k / t.length ≤ 60 := Nat.le_trans (Nat.div_le_self _ _) hk
  have p2 : Bd 63 (2 ^ (k / t.length)) := by
    unfold Bd
    exact Nat.pow_lt_pow_right (by omega) (by omega)
  have hb := (bd9 b).mul p2
  have pos : 0 < (t.getD (k % t.length) (1, 1)).1 * 2 ^ (k / t.length) := Nat.mul_pos a.1 (pow_pos2 _)
  refine ⟨fr_red pos a.2.1, ?_, ?_, hb⟩
  · exact hb.le (Nat.div_le_self _ _)
  · exact (bd9 c).le (Nat.div_le_self _ _)
theorem ix_tone {t : List (Nat × Nat)} {i : Nat} (h : i < t.length) : vIx (.p (tD t)) (.p (.int (i : Nat))) = some (.p (qD (t.getD i (1, 1)))) := by
  rw [ix_t, at_nat (by rw [List.length_map]; exact h), List.getElem_map, List.getD_eq_getElem?_getD, List.getElem?_eq_getElem h]
  rfl
theorem speed_eq {t : List (Nat × Nat)} (T : Tn t) {k : Nat} (hk : k ≤ 60) : fm_speed [.p (tD t), .p (.int (k : Nat))] dc = .ok (.p (qD (sp t k)), dc) := by
  have hp := T.pos
  have hl := T.le
  obtain ⟨f1, f2, f3, f4⟩ := sp_facts T hk
  obtain ⟨a, b, c⟩ := tone_el T (k % t.length)
  have hd : k / t.length ≤ 60 := Nat.le_trans (Nat.div_le_self _ _) hk
  have p2 : Bd 63 (2 ^ (k / t.length)) := by
    unfold Bd
    exact Nat.pow_lt_pow_right (by omega) (by omega)
  have e1 : vDiv (.p (.int (k : Nat))) (.p (.int (t.length : Nat))) = some (.p (.int ((k / t.length : Nat) : Int))) := div_N (i := (k : Int)) (by decide) hp (bd9 (by omega)) (by decide)
  have e2 := mod_N (x := k) hp
  have e3 := ix_tone (Nat.mod_lt k hp)
  have e4 := power_eq (dc := dc) (a := 2) (n := k / t.length) (by decide) (by decide) two_B (by omega)
  have e5 := mul_N (by decide) (by decide) (bd9 b) p2 (by decide)
  have e6 := ratio_N (dc := dc) (a := (t.getD (k % t.length) (1, 1)).1 * 2 ^ (k / t.length)) a.2.1 (by decide) (bd9 c) (by decide)
  have e4' : fm_power [.p (.int 2), .p (.int ((k / t.length : Nat) : Int))] dc = .ok (.p (.int ((2 ^ (k / t.length) : Nat) : Int)), dc) := e4
  have sE : sb_speed [some (.p (tD t)), some (.p (.int (k : Nat))), none, none, none] dc = .ok (.rt (.p (qD (sp t k))), [some (.p (tD t)), some (.p (.int (k : Nat))), some (.p (.int ((k / t.length : Nat) : Int))), some (.p (.int ((t.getD (k % t.length) (1, 1)).1 : Nat))), some (.p (.int ((t.getD (k % t.length) (1, 1)).2 : Nat)))], dc) := by
    refine seq_go (ρ' := [some (.p (tD t)), some (.p (.int (k : Nat))), some (.p (.int ((k / t.length : Nat) : Int))), none, none]) (dc' := dc) ((set_go (d := .int ((k / t.length : Nat) : Int)) (dc' := dc) ?_).trans rfl) (seq_go (ρ' := [some (.p (tD t)), some (.p (.int (k : Nat))), some (.p (.int ((k / t.length : Nat) : Int))), some (.p (.int ((t.getD (k % t.length) (1, 1)).1 : Nat))), some (.p (.int ((t.getD (k % t.length) (1, 1)).2 : Nat)))]) (dc' := dc) (unp_go (dc' := dc) (ds := [.int ((t.getD (k % t.length) (1, 1)).1 : Nat), .int ((t.getD (k % t.length) (1, 1)).2 : Nat)]) ?_ rfl) (ret_go ?_))
    · simp only [eBin_ap, eCall_ap, aCons_ap, aNil_ap, eVar_ap, List.getElem?_cons_zero, List.getElem?_cons_succ, and_ok, len_t, List.length_map, opt_some, e1]
    · simp only [eBin_ap, eCall_ap, aCons_ap, aNil_ap, eVar_ap, List.getElem?_cons_zero, List.getElem?_cons_succ, and_ok, len_t, List.length_map, opt_some, e2, e3]
      rfl
    · simp only [eBin_ap, eApp_ap, aCons_ap, aNil_ap, eVar_ap, eP_ap, List.getElem?_cons_zero, List.getElem?_cons_succ, and_ok, argB_p2, e4', e5, opt_some, e6]
      rfl
  exact fn_go sE
theorem lspeed_eq {t : List (Nat × Nat)} (T : Tn t) {k : Nat} (hk : k ≤ 60) : fm__law_speed [.p (tD t), .p (.int (k : Nat))] dc = .ok (.p (qD (sp t k)), dc) := by
  have hp := T.pos
  have hl := T.le
  obtain ⟨f1, f2, f3, f4⟩ := sp_facts T hk
  obtain ⟨a, b, c⟩ := tone_el T (k % t.length)
  have hd : k / t.length ≤ 60 := Nat.le_trans (Nat.div_le_self _ _) hk
  have p2 : Bd 63 (2 ^ (k / t.length)) := by
    unfold Bd
    exact Nat.pow_lt_pow_right (by omega) (by omega)
  have e1 : vDiv (.p (.int (k : Nat))) (.p (.int (t.length : Nat))) = some (.p (.int ((k / t.length : Nat) : Int))) := div_N (i := (k : Int)) (by decide) hp (bd9 (by omega)) (by decide)
  have e2 := mod_N (x := k) hp
  have e3 := ix_tone (Nat.mod_lt k hp)
  have e4 : fm__law_power [.p (.int 2), .p (.int ((k / t.length : Nat) : Int))] dc = .ok (.p (.int ((2 ^ (k / t.length) : Nat) : Int)), dc) := lpower_eq (dc := dc) (a := 2) (n := k / t.length) (by decide) (by decide) two_B (by omega)
  have e5 := mul_N (by decide) (by decide) (bd9 b) p2 (by decide)
  have e6 := lfrac_N (dc := dc) (a := (t.getD (k % t.length) (1, 1)).1 * 2 ^ (k / t.length)) a.2.1 ((bd9 c).mono (by decide))
  have sE : sb__law_speed [some (.p (tD t)), some (.p (.int (k : Nat))), none, none] dc = .ok (.rt (.p (qD (sp t k))), [some (.p (tD t)), some (.p (.int (k : Nat))), some (.p (.int ((t.getD (k % t.length) (1, 1)).1 : Nat))), some (.p (.int ((t.getD (k % t.length) (1, 1)).2 : Nat)))], dc) := by
    refine seq_go (ρ' := [some (.p (tD t)), some (.p (.int (k : Nat))), some (.p (.int ((t.getD (k % t.length) (1, 1)).1 : Nat))), some (.p (.int ((t.getD (k % t.length) (1, 1)).2 : Nat)))]) (dc' := dc) (unp_go (dc' := dc) (ds := [.int ((t.getD (k % t.length) (1, 1)).1 : Nat), .int ((t.getD (k % t.length) (1, 1)).2 : Nat)]) ?_ rfl) (ret_go ?_)
    · simp only [eBin_ap, eCall_ap, aCons_ap, aNil_ap, eVar_ap, List.getElem?_cons_zero, List.getElem?_cons_succ, and_ok, len_t, List.length_map, opt_some, e2, e3]
      rfl
    · simp only [eBin_ap, eCall_ap, eApp_ap, aCons_ap, aNil_ap, eVar_ap, eP_ap, List.getElem?_cons_zero, List.getElem?_cons_succ, and_ok, len_t, List.length_map, e1, argB_p2, e4, e5, opt_some, e6]
      rfl
  exact fn_go sE
end

end K02

set_option maxHeartbeats 4000000
namespace K02
open PySem PySem.Spec PyProof.Rows L2 DL
/-! ### intervals, beats -/
section
variable {dc : Dc} {t : List (Nat × Nat)}
def ivl (t : List (Nat × Nat)) (lo hi : Nat) : Nat × Nat := frN ((sp t hi).1 * (sp t lo).2) ((sp t hi).2 * (sp t lo).1)
theorem interval_eq (T : Tn t) {lo hi : Nat} (h1 : lo ≤ 60) (h2 : hi ≤ 60) : fm_interval [.p (tD t), .p (.int (lo : Nat)), .p (.int (hi : Nat))] dc = .ok (.p (qD (ivl t lo hi)), dc) := by
  have n1 := need_tuning_t (n := "tuning") (is_tuning_ok (dc := dc) T)
  have n2 := need_int_t (dc := dc) (s := "low") (i := (lo : Int)) (lo := 0) (hi := 60) (by omega) (by omega)
  have n3 := need_int_t (dc := dc) (s := "high") (i := (hi : Int)) (lo := 0) (hi := 60) (by omega) (by omega)
  obtain ⟨a1, a2, a3, _⟩ := sp_facts T h1
  obtain ⟨b1, b2, b3, _⟩ := sp_facts T h2
  have e1 := speed_eq (dc := dc) T h1
  have e2 := speed_eq (dc := dc) T h2
  have m1 := mul_N (by decide) (by decide) b2 a3 (by decide)
  have m2 := mul_N (by decide) (by decide) b3 a2 (by decide)
  have er := ratio_N (dc := dc) (a := (sp t hi).1 * (sp t lo).2) (Nat.mul_pos b1.2.1 a1.1) (by decide) (b3.mul a2) (by decide)
  have sE : sb_interval [some (.p (tD t)), some (.p (.int (lo : Nat))), some (.p (.int (hi : Nat))), none, none] dc = .ok (.rt (.p (qD (ivl t lo hi))), [some (.p (tD t)), some (.p (.int (lo : Nat))), some (.p (.int (hi : Nat))), some (.p (qD (sp t lo))), some (.p (qD (sp t hi)))], dc) := by
    refine seq_go (dc' := dc) (expr_go (v := .p .none) (by simp only [and_ok, and_exn, and_stuck, opt_some, bind_ap, thn_ap, ret_ap, sopt_ap, eP_ap, eVar_ap, eBin_ap, eUn_ap, eChain_ap, chK_t, chK_f, aNil_ap, aCons_ap, eCall_ap, tstV_ap, asB_b, tAnd_ap, tOr_ap, tNot_ap, eAnd_ap, eOr_ap, eNot_ap, eIf_ap, eApp_ap, eAppK_ap, argB_p1, argB_p2, argB_p3, argB_p4, argB_p5, argB_d1, argB_d2, argB_s2, argB_f2, eAll_ap, eComp_ap, itS_ap, itF_ap, frD, tgN_ap, tgT_ap, seq_ap, sNx_ap, sIf_ap, sRet_ap, rtK_some, sSet_ap, setK_some, sFor_ap, unp_ap, unK_2, unK_3, fnK_rt, fnK_nx, fnK_exn, fnM_ap, List.getElem?_cons_zero, List.getElem?_cons_succ, List.map_cons, List.map_nil, List.length_cons, List.length_nil, List.length_map, List.replicate, List.append_nil, List.cons_append, List.nil_append, Option.map_some, Option.map_none, Option.bind_some, Option.bind_none, if_true, if_false, ite_true, ite_false, Bool.false_eq_true, Bool.true_eq_false, reduceCtorEq, isi_t, len_t, len_l, vLe, vLt, vGt, vGe, vAdd, vSub, sq_t, sq_l, wipeR, Val.ice, Val.frz, datas, Bool.not_true, Bool.not_false, setAll, List.set_cons_zero, List.set_cons_succ, List.set_nil, Nat.reduceAdd, Nat.reduceSub, Nat.reduceLeDiff, decide_true, n1])) ?_
    refine seq_go (dc' := dc) (expr_go (v := .p .none) (by simp only [and_ok, and_exn, and_stuck, opt_some, bind_ap, thn_ap, ret_ap, sopt_ap, eP_ap, eVar_ap, eBin_ap, eUn_ap, eChain_ap, chK_t, chK_f, aNil_ap, aCons_ap, eCall_ap, tstV_ap, asB_b, tAnd_ap, tOr_ap, tNot_ap, eAnd_ap, eOr_ap, eNot_ap, eIf_ap, eApp_ap, eAppK_ap, argB_p1, argB_p2, argB_p3, argB_p4, argB_p5, argB_d1, argB_d2, argB_s2, argB_f2, eAll_ap, eComp_ap, itS_ap, itF_ap, frD, tgN_ap, tgT_ap, seq_ap, sNx_ap, sIf_ap, sRet_ap, rtK_some, sSet_ap, setK_some, sFor_ap, unp_ap, unK_2, unK_3, fnK_rt, fnK_nx, fnK_exn, fnM_ap, List.getElem?_cons_zero, List.getElem?_cons_succ, List.map_cons, List.map_nil, List.length_cons, List.length_nil, List.length_map, List.replicate, List.append_nil, List.cons_append, List.nil_append, Option.map_some, Option.map_none, Option.bind_some, Option.bind_none, if_true, if_false, ite_true, ite_false, Bool.false_eq_true, Bool.true_eq_false, reduceCtorEq, isi_t, len_t, len_l, vLe, vLt, vGt, vGe, vAdd, vSub, sq_t, sq_l, wipeR, Val.ice, Val.frz, datas, Bool.not_true, Bool.not_false, setAll, List.set_cons_zero, List.set_cons_succ, List.set_nil, Nat.reduceAdd, Nat.reduceSub, Nat.reduceLeDiff, decide_true, n2])) ?_
    refine seq_go (dc' := dc) (expr_go (v := .p .none) (by simp only [and_ok, and_exn, and_stuck, opt_some, bind_ap, thn_ap, ret_ap, sopt_ap, eP_ap, eVar_ap, eBin_ap, eUn_ap, eChain_ap, chK_t, chK_f, aNil_ap, aCons_ap, eCall_ap, tstV_ap, asB_b, tAnd_ap, tOr_ap, tNot_ap, eAnd_ap, eOr_ap, eNot_ap, eIf_ap, eApp_ap, eAppK_ap, argB_p1, argB_p2, argB_p3, argB_p4, argB_p5, argB_d1, argB_d2, argB_s2, argB_f2, eAll_ap, eComp_ap, itS_ap, itF_ap, frD, tgN_ap, tgT_ap, seq_ap, sNx_ap, sIf_ap, sRet_ap, rtK_some, sSet_ap, setK_some, sFor_ap, unp_ap, unK_2, unK_3, fnK_rt, fnK_nx, fnK_exn, fnM_ap, List.getElem?_cons_zero, List.getElem?_cons_succ, List.map_cons, List.map_nil, List.length_cons, List.length_nil, List.length_map, List.replicate, List.append_nil, List.cons_append, List.nil_append, Option.map_some, Option.map_none, Option.bind_some, Option.bind_none, if_true, if_false, ite_true, ite_false, Bool.false_eq_true, Bool.true_eq_false, reduceCtorEq, isi_t, len_t, len_l, vLe, vLt, vGt, vGe, vAdd, vSub, sq_t, sq_l, wipeR, Val.ice, Val.frz, datas, Bool.not_true, Bool.not_false, setAll, List.set_cons_zero, List.set_cons_succ, List.set_nil, Nat.reduceAdd, Nat.reduceSub, Nat.reduceLeDiff, decide_true, n3])) ?_
    refine seq_go (ρ' := [some (.p (tD t)), some (.p (.int (lo : Nat))), some (.p (.int (hi : Nat))), some (.p (qD (sp t lo))), none]) (dc' := dc) ((set_go (d := qD (sp t lo)) (dc' := dc) (by simp only [and_ok, and_exn, and_stuck, opt_some, bind_ap, thn_ap, ret_ap, sopt_ap, eP_ap, eVar_ap, eBin_ap, eUn_ap, eChain_ap, chK_t, chK_f, aNil_ap, aCons_ap, eCall_ap, tstV_ap, asB_b, tAnd_ap, tOr_ap, tNot_ap, eAnd_ap, eOr_ap, eNot_ap, eIf_ap, eApp_ap, eAppK_ap, argB_p1, argB_p2, argB_p3, argB_p4, argB_p5, argB_d1, argB_d2, argB_s2, argB_f2, eAll_ap, eComp_ap, itS_ap, itF_ap, frD, tgN_ap, tgT_ap, seq_ap, sNx_ap, sIf_ap, sRet_ap, rtK_some, sSet_ap, setK_some, sFor_ap, unp_ap, unK_2, unK_3, fnK_rt, fnK_nx, fnK_exn, fnM_ap, List.getElem?_cons_zero, List.getElem?_cons_succ, List.map_cons, List.map_nil, List.length_cons, List.length_nil, List.length_map, List.replicate, List.append_nil, List.cons_append, List.nil_append, Option.map_some, Option.map_none, Option.bind_some, Option.bind_none, if_true, if_false, ite_true, ite_false, Bool.false_eq_true, Bool.true_eq_false, reduceCtorEq, isi_t, len_t, len_l, vLe, vLt, vGt, vGe, vAdd, vSub, sq_t, sq_l, wipeR, Val.ice, Val.frz, datas, Bool.not_true, Bool.not_false, setAll, List.set_cons_zero, List.set_cons_succ, List.set_nil, Nat.reduceAdd, Nat.reduceSub, Nat.reduceLeDiff, decide_true, e1])).trans rfl) ?_
    refine seq_go (ρ' := [some (.p (tD t)), some (.p (.int (lo : Nat))), some (.p (.int (hi : Nat))), some (.p (qD (sp t lo))), some (.p (qD (sp t hi)))]) (dc' := dc) ((set_go (d := qD (sp t hi)) (dc' := dc) (by simp only [and_ok, and_exn, and_stuck, opt_some, bind_ap, thn_ap, ret_ap, sopt_ap, eP_ap, eVar_ap, eBin_ap, eUn_ap, eChain_ap, chK_t, chK_f, aNil_ap, aCons_ap, eCall_ap, tstV_ap, asB_b, tAnd_ap, tOr_ap, tNot_ap, eAnd_ap, eOr_ap, eNot_ap, eIf_ap, eApp_ap, eAppK_ap, argB_p1, argB_p2, argB_p3, argB_p4, argB_p5, argB_d1, argB_d2, argB_s2, argB_f2, eAll_ap, eComp_ap, itS_ap, itF_ap, frD, tgN_ap, tgT_ap, seq_ap, sNx_ap, sIf_ap, sRet_ap, rtK_some, sSet_ap, setK_some, sFor_ap, unp_ap, unK_2, unK_3, fnK_rt, fnK_nx, fnK_exn, fnM_ap, List.getElem?_cons_zero, List.getElem?_cons_succ, List.map_cons, List.map_nil, List.length_cons, List.length_nil, List.length_map, List.replicate, List.append_nil, List.cons_append, List.nil_append, Option.map_some, Option.map_none, Option.bind_some, Option.bind_none, if_true, if_false, ite_true, ite_false, Bool.false_eq_true, Bool.true_eq_false, reduceCtorEq, isi_t, len_t, len_l, vLe, vLt, vGt, vGe, vAdd, vSub, sq_t, sq_l, wipeR, Val.ice, Val.frz, datas, Bool.not_true, Bool.not_false, setAll, List.set_cons_zero, List.set_cons_succ, List.set_nil, Nat.reduceAdd, Nat.reduceSub, Nat.reduceLeDiff, decide_true, e2])).trans rfl) (ret_go ?_)
    simp only [eBin_ap, eApp_ap, aCons_ap, aNil_ap, eVar_ap, eP_ap, List.getElem?_cons_zero, List.getElem?_cons_succ, and_ok, ix0_q, ix1_q, opt_some, m1, m2, argB_p2, er]
    rfl
  exact fn_go sE
/-- the difference that beats -/
def dif (t : List (Nat × Nat)) (lo hi a b : Nat) : Int := ((sp t hi).1 * b * (sp t lo).2 : Nat) - ((sp t lo).1 * a * (sp t hi).2 : Nat)
def btv (t : List (Nat × Nat)) (lo hi a b : Nat) : Nat × Nat := frN (dif t lo hi a b).natAbs ((sp t lo).2 * (sp t hi).2)
theorem dif_B (T : Tn t) {lo hi a b : Nat} (h1 : lo ≤ 60) (h2 : hi ≤ 60) (ha : a ≤ 20) (hb : b ≤ 20) : Bd 129 (dif t lo hi a b).natAbs := by
  obtain ⟨_, a2, a3, _⟩ := sp_facts T h1
  obtain ⟨_, b2, b3, _⟩ := sp_facts T h2
  have x1 : Bd (93 + 5 + 30) ((sp t hi).1 * b * (sp t lo).2) := (b2.mul (show Bd 5 b by unfold Bd; omega)).mul a3
  have x2 : Bd (93 + 5 + 30) ((sp t lo).1 * a * (sp t hi).2) := (a2.mul (show Bd 5 a by unfold Bd; omega)).mul b3
  unfold dif Bd at *
  omega
theorem natAbs_fr (x : Int) {b : Nat} (hb : 0 < b) : ((frZ x b).1.natAbs, (frZ x b).2) = ((frN x.natAbs b).1, (((frN x.natAbs b).2 : Nat) : Int)) := by
  have g0 : 0 < Nat.gcd x.natAbs b := gcd_pos hb
  obtain ⟨m, hm⟩ : ((Nat.gcd x.natAbs b : Nat) : Int) ∣ x := by
    obtain ⟨c, hc⟩ := Nat.gcd_dvd_left x.natAbs b
    rcases Int.natAbs_eq x with h | h
    · exact ⟨(c : Int), by rw [← Int.natCast_mul, ← hc]; exact h⟩
    · exact ⟨-(c : Int), by rw [Int.mul_neg, ← Int.natCast_mul, ← hc]; exact h⟩
  have e1 : x / ((Nat.gcd x.natAbs b : Nat) : Int) = m := by
    conv => lhs; rw [hm]
    have : ((Nat.gcd x.natAbs b : Nat) : Int) ≠ 0 := by omega
    have h2 := Int.mul_ediv_cancel_left m this
    rw [← hm]
    rw [← hm] at h2
    exact h2
  have e2 : x.natAbs / Nat.gcd x.natAbs b = m.natAbs := by
    have h3 : x.natAbs = Nat.gcd x.natAbs b * m.natAbs := by
      have := congrArg Int.natAbs hm
      rw [Int.natAbs_mul] at this
      exact this
    have h4 := Nat.mul_div_cancel_left m.natAbs g0
    rw [← h3] at h4
    exact h4
  unfold frZ frN
  rw [e1, e2]
theorem beats_eq (T : Tn t) {lo hi a b : Nat} (h1 : lo ≤ 60) (h2 : hi ≤ 60) (ha0 : 1 ≤ a) (ha : a ≤ 20) (hb0 : 1 ≤ b) (hb : b ≤ 20) : fm_beats [.p (tD t), .p (.int (lo : Nat)), .p (.int (hi : Nat)), .p (.int (a : Nat)), .p (.int (b : Nat))] dc = .ok (.p (qD (btv t lo hi a b)), dc) := by
  have n1 := need_tuning_t (n := "tuning") (is_tuning_ok (dc := dc) T)
  have n2 := need_int_t (dc := dc) (s := "low") (i := (lo : Int)) (lo := 0) (hi := 60) (by omega) (by omega)
  have n3 := need_int_t (dc := dc) (s := "high") (i := (hi : Int)) (lo := 0) (hi := 60) (by omega) (by omega)
  have n4 := need_int_t (dc := dc) (s := "above") (i := (a : Int)) (lo := 1) (hi := 20) (by omega) (by omega)
  have n5 := need_int_t (dc := dc) (s := "below") (i := (b : Int)) (lo := 1) (hi := 20) (by omega) (by omega)
  obtain ⟨a1, a2, a3, _⟩ := sp_facts T h1
  obtain ⟨b1, b2, b3, _⟩ := sp_facts T h2
  have e1 := speed_eq (dc := dc) T h1
  have e2 := speed_eq (dc := dc) T h2
  have Ba : Bd 5 a := by unfold Bd; omega
  have Bb : Bd 5 b := by unfold Bd; omega
  have m1 := mul_N (by decide) (by decide) b2 Bb (by decide)
  have m2 := mul_N (by decide) (by decide) a2 Ba (by decide)
  have s1 : vSub (.p (.int 0)) (.p (.int (((sp t lo).1 * a : Nat) : Int))) = some (.p (.int (-(((sp t lo).1 * a : Nat) : Int)))) := by
    show some (Val.p (.int (0 - (((sp t lo).1 * a : Nat) : Int)))) = _
    rw [Int.zero_sub]
  have m3 := mul_N (by decide) (by decide) (b2.mul Bb) a3 (by decide)
  have m4 := mul_Z (i := -(((sp t lo).1 * a : Nat) : Int)) (j := ((sp t hi).2 : Int)) (k := 98) (l := 30) (by decide) (by decide) (by rw [Int.natAbs_neg]; exact a2.mul Ba) b3 (by decide)
  have m5 := mul_N (by decide) (by decide) b3 a3 (by decide)
  have ad : vAdd (.p (.int (((sp t hi).1 * b * (sp t lo).2 : Nat) : Int))) (.p (.int (-(((sp t lo).1 * a : Nat) : Int) * ((sp t hi).2 : Int)))) = some (.p (.int (dif t lo hi a b))) := by
    show some (Val.p (.int ((((sp t hi).1 * b * (sp t lo).2 : Nat) : Int) + (-(((sp t lo).1 * a : Nat) : Int) * ((sp t hi).2 : Int))))) = _
    have : (((sp t hi).1 * b * (sp t lo).2 : Nat) : Int) + (-(((sp t lo).1 * a : Nat) : Int) * ((sp t hi).2 : Int)) = dif t lo hi a b := by
      unfold dif
      rw [Int.neg_mul, Int.natCast_mul ((sp t lo).1 * a), ← Int.sub_eq_add_neg]
    rw [this]
  have dpos : 0 < (sp t hi).2 * (sp t lo).2 := Nat.mul_pos b1.2.1 a1.2.1
  have er := ratio_Z (dc := dc) (a := dif t lo hi a b) dpos (by decide) (b3.mul a3) (by decide)
  have ix0 : ∀ (x : Int) (y : PyData), vIx (.p (.tuple [.int x, y])) (.p (.int 0)) = some (.p (.int x)) := fun x y => by rw [ix_t, at_0]; rfl
  have ix1 : ∀ (x y : PyData), vIx (.p (.tuple [x, y])) (.p (.int 1)) = some (.p y) := fun x y => by rw [ix_t, at_1]; rfl
  have ep : fm_plus [.p (.tuple [.int (((sp t hi).1 * b : Nat) : Int), .int ((sp t hi).2 : Nat)]), .p (.tuple [.int (-(((sp t lo).1 * a : Nat) : Int)), .int ((sp t lo).2 : Nat)])] dc = .ok (.p (pD (frZ (dif t lo hi a b) ((sp t hi).2 * (sp t lo).2))), dc) := by
    refine fn_go (ρ' := [some (.p (.tuple [.int (((sp t hi).1 * b : Nat) : Int), .int ((sp t hi).2 : Nat)])), some (.p (.tuple [.int (-(((sp t lo).1 * a : Nat) : Int)), .int ((sp t lo).2 : Nat)]))]) (ret_go ?_)
    simp only [eBin_ap, eApp_ap, aCons_ap, aNil_ap, eVar_ap, eP_ap, List.map_cons, List.map_nil, List.length_cons, List.length_nil, List.replicate, Nat.reduceAdd, Nat.reduceSub, List.append_nil, List.getElem?_cons_zero, List.getElem?_cons_succ, and_ok, ix0, ix1, opt_some, m3, m4, m5, ad, argB_p2, er]
  have ez : fm_size [.p (pD (frZ (dif t lo hi a b) ((sp t hi).2 * (sp t lo).2)))] dc = .ok (.p (qD (btv t lo hi a b)), dc) := by
    refine fn_go (ρ' := [some (.p (pD (frZ (dif t lo hi a b) ((sp t hi).2 * (sp t lo).2))))]) (ret_go ?_)
    have v := natAbs_fr (dif t lo hi a b) dpos
    have v1 := congrArg Prod.fst v
    have v2 := congrArg Prod.snd v
    have v1' : (frZ (dif t lo hi a b) ((sp t hi).2 * (sp t lo).2)).1.natAbs = (frN (dif t lo hi a b).natAbs ((sp t hi).2 * (sp t lo).2)).1 := v1
    have v2' : (frZ (dif t lo hi a b) ((sp t hi).2 * (sp t lo).2)).2 = (((frN (dif t lo hi a b).natAbs ((sp t hi).2 * (sp t lo).2)).2 : Nat) : Int) := v2
    have ea := abs_Z (frZ (dif t lo hi a b) ((sp t hi).2 * (sp t lo).2)).1
    rw [v1'] at ea
    have ec : (sp t hi).2 * (sp t lo).2 = (sp t lo).2 * (sp t hi).2 := Nat.mul_comm _ _
    unfold btv
    rw [← ec]
    unfold pD
    simp only [eCall_ap, eBin_ap, aCons_ap, aNil_ap, eVar_ap, eP_ap, List.map_cons, List.map_nil, List.length_cons, List.length_nil, List.replicate, Nat.reduceAdd, Nat.reduceSub, List.append_nil, List.getElem?_cons_zero, List.getElem?_cons_succ, and_ok, ix0, ix1, opt_some, ea, v2']
    rfl
  have sE : sb_beats [some (.p (tD t)), some (.p (.int (lo : Nat))), some (.p (.int (hi : Nat))), some (.p (.int (a : Nat))), some (.p (.int (b : Nat))), none, none] dc = .ok (.rt (.p (qD (btv t lo hi a b))), [some (.p (tD t)), some (.p (.int (lo : Nat))), some (.p (.int (hi : Nat))), some (.p (.int (a : Nat))), some (.p (.int (b : Nat))), some (.p (qD (sp t lo))), some (.p (qD (sp t hi)))], dc) := by
    refine seq_go (dc' := dc) (expr_go (v := .p .none) (by simp only [and_ok, and_exn, and_stuck, opt_some, bind_ap, thn_ap, ret_ap, sopt_ap, eP_ap, eVar_ap, eBin_ap, eUn_ap, eChain_ap, chK_t, chK_f, aNil_ap, aCons_ap, eCall_ap, tstV_ap, asB_b, tAnd_ap, tOr_ap, tNot_ap, eAnd_ap, eOr_ap, eNot_ap, eIf_ap, eApp_ap, eAppK_ap, argB_p1, argB_p2, argB_p3, argB_p4, argB_p5, argB_d1, argB_d2, argB_s2, argB_f2, eAll_ap, eComp_ap, itS_ap, itF_ap, frD, tgN_ap, tgT_ap, seq_ap, sNx_ap, sIf_ap, sRet_ap, rtK_some, sSet_ap, setK_some, sFor_ap, unp_ap, unK_2, unK_3, fnK_rt, fnK_nx, fnK_exn, fnM_ap, List.getElem?_cons_zero, List.getElem?_cons_succ, List.map_cons, List.map_nil, List.length_cons, List.length_nil, List.length_map, List.replicate, List.append_nil, List.cons_append, List.nil_append, Option.map_some, Option.map_none, Option.bind_some, Option.bind_none, if_true, if_false, ite_true, ite_false, Bool.false_eq_true, Bool.true_eq_false, reduceCtorEq, isi_t, len_t, len_l, vLe, vLt, vGt, vGe, vAdd, vSub, sq_t, sq_l, wipeR, Val.ice, Val.frz, datas, Bool.not_true, Bool.not_false, setAll, List.set_cons_zero, List.set_cons_succ, List.set_nil, Nat.reduceAdd, Nat.reduceSub, Nat.reduceLeDiff, decide_true, n1])) ?_
    refine seq_go (dc' := dc) (expr_go (v := .p .none) (by simp only [and_ok, and_exn, and_stuck, opt_some, bind_ap, thn_ap, ret_ap, sopt_ap, eP_ap, eVar_ap, eBin_ap, eUn_ap, eChain_ap, chK_t, chK_f, aNil_ap, aCons_ap, eCall_ap, tstV_ap, asB_b, tAnd_ap, tOr_ap, tNot_ap, eAnd_ap, eOr_ap, eNot_ap, eIf_ap, eApp_ap, eAppK_ap, argB_p1, argB_p2, argB_p3, argB_p4, argB_p5, argB_d1, argB_d2, argB_s2, argB_f2, eAll_ap, eComp_ap, itS_ap, itF_ap, frD, tgN_ap, tgT_ap, seq_ap, sNx_ap, sIf_ap, sRet_ap, rtK_some, sSet_ap, setK_some, sFor_ap, unp_ap, unK_2, unK_3, fnK_rt, fnK_nx, fnK_exn, fnM_ap, List.getElem?_cons_zero, List.getElem?_cons_succ, List.map_cons, List.map_nil, List.length_cons, List.length_nil, List.length_map, List.replicate, List.append_nil, List.cons_append, List.nil_append, Option.map_some, Option.map_none, Option.bind_some, Option.bind_none, if_true, if_false, ite_true, ite_false, Bool.false_eq_true, Bool.true_eq_false, reduceCtorEq, isi_t, len_t, len_l, vLe, vLt, vGt, vGe, vAdd, vSub, sq_t, sq_l, wipeR, Val.ice, Val.frz, datas, Bool.not_true, Bool.not_false, setAll, List.set_cons_zero, List.set_cons_succ, List.set_nil, Nat.reduceAdd, Nat.reduceSub, Nat.reduceLeDiff, decide_true, n2])) ?_
    refine seq_go (dc' := dc) (expr_go (v := .p .none) (by simp only [and_ok, and_exn, and_stuck, opt_some, bind_ap, thn_ap, ret_ap, sopt_ap, eP_ap, eVar_ap, eBin_ap, eUn_ap, eChain_ap, chK_t, chK_f, aNil_ap, aCons_ap, eCall_ap, tstV_ap, asB_b, tAnd_ap, tOr_ap, tNot_ap, eAnd_ap, eOr_ap, eNot_ap, eIf_ap, eApp_ap, eAppK_ap, argB_p1, argB_p2, argB_p3, argB_p4, argB_p5, argB_d1, argB_d2, argB_s2, argB_f2, eAll_ap, eComp_ap, itS_ap, itF_ap, frD, tgN_ap, tgT_ap, seq_ap, sNx_ap, sIf_ap, sRet_ap, rtK_some, sSet_ap, setK_some, sFor_ap, unp_ap, unK_2, unK_3, fnK_rt, fnK_nx, fnK_exn, fnM_ap, List.getElem?_cons_zero, List.getElem?_cons_succ, List.map_cons, List.map_nil, List.length_cons, List.length_nil, List.length_map, List.replicate, List.append_nil, List.cons_append, List.nil_append, Option.map_some, Option.map_none, Option.bind_some, Option.bind_none, if_true, if_false, ite_true, ite_false, Bool.false_eq_true, Bool.true_eq_false, reduceCtorEq, isi_t, len_t, len_l, vLe, vLt, vGt, vGe, vAdd, vSub, sq_t, sq_l, wipeR, Val.ice, Val.frz, datas, Bool.not_true, Bool.not_false, setAll, List.set_cons_zero, List.set_cons_succ, List.set_nil, Nat.reduceAdd, Nat.reduceSub, Nat.reduceLeDiff, decide_true, n3])) ?_
    refine seq_go (dc' := dc) (expr_go (v := .p .none) (by simp only [and_ok, and_exn, and_stuck, opt_some, bind_ap, thn_ap, ret_ap, sopt_ap, eP_ap, eVar_ap, eBin_ap, eUn_ap, eChain_ap, chK_t, chK_f, aNil_ap, aCons_ap, eCall_ap, tstV_ap, asB_b, tAnd_ap, tOr_ap, tNot_ap, eAnd_ap, eOr_ap, eNot_ap, eIf_ap, eApp_ap, eAppK_ap, argB_p1, argB_p2, argB_p3, argB_p4, argB_p5, argB_d1, argB_d2, argB_s2, argB_f2, eAll_ap, eComp_ap, itS_ap, itF_ap, frD, tgN_ap, tgT_ap, seq_ap, sNx_ap, sIf_ap, sRet_ap, rtK_some, sSet_ap, setK_some, sFor_ap, unp_ap, unK_2, unK_3, fnK_rt, fnK_nx, fnK_exn, fnM_ap, List.getElem?_cons_zero, List.getElem?_cons_succ, List.map_cons, List.map_nil, List.length_cons, List.length_nil, List.length_map, List.replicate, List.append_nil, List.cons_append, List.nil_append, Option.map_some, Option.map_none, Option.bind_some, Option.bind_none, if_true, if_false, ite_true, ite_false, Bool.false_eq_true, Bool.true_eq_false, reduceCtorEq, isi_t, len_t, len_l, vLe, vLt, vGt, vGe, vAdd, vSub, sq_t, sq_l, wipeR, Val.ice, Val.frz, datas, Bool.not_true, Bool.not_false, setAll, List.set_cons_zero, List.set_cons_succ, List.set_nil, Nat.reduceAdd, Nat.reduceSub, Nat.reduceLeDiff, decide_true, n4])) ?_
    refine seq_go (dc' := dc) (expr_go (v := .p .none) (by simp only [and_ok, and_exn, and_stuck, opt_some, bind_ap, thn_ap, ret_ap, sopt_ap, eP_ap, eVar_ap, eBin_ap, eUn_ap, eChain_ap, chK_t, chK_f, aNil_ap, aCons_ap, eCall_ap, tstV_ap, asB_b, tAnd_ap, tOr_ap, tNot_ap, eAnd_ap, eOr_ap, eNot_ap, eIf_ap, eApp_ap, eAppK_ap, argB_p1, argB_p2, argB_p3, argB_p4, argB_p5, argB_d1, argB_d2, argB_s2, argB_f2, eAll_ap, eComp_ap, itS_ap, itF_ap, frD, tgN_ap, tgT_ap, seq_ap, sNx_ap, sIf_ap, sRet_ap, rtK_some, sSet_ap, setK_some, sFor_ap, unp_ap, unK_2, unK_3, fnK_rt, fnK_nx, fnK_exn, fnM_ap, List.getElem?_cons_zero, List.getElem?_cons_succ, List.map_cons, List.map_nil, List.length_cons, List.length_nil, List.length_map, List.replicate, List.append_nil, List.cons_append, List.nil_append, Option.map_some, Option.map_none, Option.bind_some, Option.bind_none, if_true, if_false, ite_true, ite_false, Bool.false_eq_true, Bool.true_eq_false, reduceCtorEq, isi_t, len_t, len_l, vLe, vLt, vGt, vGe, vAdd, vSub, sq_t, sq_l, wipeR, Val.ice, Val.frz, datas, Bool.not_true, Bool.not_false, setAll, List.set_cons_zero, List.set_cons_succ, List.set_nil, Nat.reduceAdd, Nat.reduceSub, Nat.reduceLeDiff, decide_true, n5])) ?_
    refine seq_go (ρ' := [some (.p (tD t)), some (.p (.int (lo : Nat))), some (.p (.int (hi : Nat))), some (.p (.int (a : Nat))), some (.p (.int (b : Nat))), some (.p (qD (sp t lo))), none]) (dc' := dc) ((set_go (d := qD (sp t lo)) (dc' := dc) (by simp only [and_ok, and_exn, and_stuck, opt_some, bind_ap, thn_ap, ret_ap, sopt_ap, eP_ap, eVar_ap, eBin_ap, eUn_ap, eChain_ap, chK_t, chK_f, aNil_ap, aCons_ap, eCall_ap, tstV_ap, asB_b, tAnd_ap, tOr_ap, tNot_ap, eAnd_ap, eOr_ap, eNot_ap, eIf_ap, eApp_ap, eAppK_ap, argB_p1, argB_p2, argB_p3, argB_p4, argB_p5, argB_d1, argB_d2, argB_s2, argB_f2, eAll_ap, eComp_ap, itS_ap, itF_ap, frD, tgN_ap, tgT_ap, seq_ap, sNx_ap, sIf_ap, sRet_ap, rtK_some, sSet_ap, setK_some, sFor_ap, unp_ap, unK_2, unK_3, fnK_rt, fnK_nx, fnK_exn, fnM_ap, List.getElem?_cons_zero, List.getElem?_cons_succ, List.map_cons, List.map_nil, List.length_cons, List.length_nil, List.length_map, List.replicate, List.append_nil, List.cons_append, List.nil_append, Option.map_some, Option.map_none, Option.bind_some, Option.bind_none, if_true, if_false, ite_true, ite_false, Bool.false_eq_true, Bool.true_eq_false, reduceCtorEq, isi_t, len_t, len_l, vLe, vLt, vGt, vGe, vAdd, vSub, sq_t, sq_l, wipeR, Val.ice, Val.frz, datas, Bool.not_true, Bool.not_false, setAll, List.set_cons_zero, List.set_cons_succ, List.set_nil, Nat.reduceAdd, Nat.reduceSub, Nat.reduceLeDiff, decide_true, e1])).trans rfl) ?_
    refine seq_go (ρ' := [some (.p (tD t)), some (.p (.int (lo : Nat))), some (.p (.int (hi : Nat))), some (.p (.int (a : Nat))), some (.p (.int (b : Nat))), some (.p (qD (sp t lo))), some (.p (qD (sp t hi)))]) (dc' := dc) ((set_go (d := qD (sp t hi)) (dc' := dc) (by simp only [and_ok, and_exn, and_stuck, opt_some, bind_ap, thn_ap, ret_ap, sopt_ap, eP_ap, eVar_ap, eBin_ap, eUn_ap, eChain_ap, chK_t, chK_f, aNil_ap, aCons_ap, eCall_ap, tstV_ap, asB_b, tAnd_ap, tOr_ap, tNot_ap, eAnd_ap, eOr_ap, eNot_ap, eIf_ap, eApp_ap, eAppK_ap, argB_p1, argB_p2, argB_p3, argB_p4, argB_p5, argB_d1, argB_d2, argB_s2, argB_f2, eAll_ap, eComp_ap, itS_ap, itF_ap, frD, tgN_ap, tgT_ap, seq_ap, sNx_ap, sIf_ap, sRet_ap, rtK_some, sSet_ap, setK_some, sFor_ap, unp_ap, unK_2, unK_3, fnK_rt, fnK_nx, fnK_exn, fnM_ap, List.getElem?_cons_zero, List.getElem?_cons_succ, List.map_cons, List.map_nil, List.length_cons, List.length_nil, List.length_map, List.replicate, List.append_nil, List.cons_append, List.nil_append, Option.map_some, Option.map_none, Option.bind_some, Option.bind_none, if_true, if_false, ite_true, ite_false, Bool.false_eq_true, Bool.true_eq_false, reduceCtorEq, isi_t, len_t, len_l, vLe, vLt, vGt, vGe, vAdd, vSub, sq_t, sq_l, wipeR, Val.ice, Val.frz, datas, Bool.not_true, Bool.not_false, setAll, List.set_cons_zero, List.set_cons_succ, List.set_nil, Nat.reduceAdd, Nat.reduceSub, Nat.reduceLeDiff, decide_true, e2])).trans rfl) (ret_go ?_)
    simp only [eBin_ap, eCall_ap, eApp_ap, aCons_ap, aNil_ap, eVar_ap, eP_ap, List.getElem?_cons_zero, List.getElem?_cons_succ, and_ok, ix0_q, ix1_q, opt_some, m1, m2, s1, vTup, datas, List.length_cons, List.length_nil, Nat.reduceAdd, Nat.reduceLeDiff, if_true, Option.map_some, argB_p2, ep, argB_p1, ez]
  exact fn_go sE
theorem lbeats_eq (T : Tn t) {lo hi a b : Nat} (h1 : lo ≤ 60) (h2 : hi ≤ 60) (ha : a ≤ 20) (hb : b ≤ 20) : fm__law_beats [.p (tD t), .p (.int (lo : Nat)), .p (.int (hi : Nat)), .p (.int (a : Nat)), .p (.int (b : Nat))] dc = .ok (.p (qD (btv t lo hi a b)), dc) := by
  obtain ⟨a1, a2, a3, _⟩ := sp_facts T h1
  obtain ⟨b1, b2, b3, _⟩ := sp_facts T h2
  have e1 := lspeed_eq (dc := dc) T h1
  have e2 := lspeed_eq (dc := dc) T h2
  have Ba : Bd 5 a := by unfold Bd; omega
  have Bb : Bd 5 b := by unfold Bd; omega
  have m1 := mul_N (by decide) (by decide) b2 Bb (by decide)
  have m2 := mul_N (by decide) (by decide) a2 Ba (by decide)
  have m3 := mul_N (by decide) (by decide) (b2.mul Bb) a3 (by decide)
  have m4 := mul_N (by decide) (by decide) (a2.mul Ba) b3 (by decide)
  have m5 := mul_N (by decide) (by decide) a3 b3 (by decide)
  have s1 : vSub (.p (.int (((sp t hi).1 * b * (sp t lo).2 : Nat) : Int))) (.p (.int (((sp t lo).1 * a * (sp t hi).2 : Nat) : Int))) = some (.p (.int (dif t lo hi a b))) := rfl
  have ea := abs_Z (dif t lo hi a b)
  have er := lfrac_N (dc := dc) (a := (dif t lo hi a b).natAbs) (Nat.mul_pos a1.2.1 b1.2.1) ((a3.mul b3).mono (by decide))
  have sE : sb__law_beats [some (.p (tD t)), some (.p (.int (lo : Nat))), some (.p (.int (hi : Nat))), some (.p (.int (a : Nat))), some (.p (.int (b : Nat))), none, none] dc = .ok (.rt (.p (qD (btv t lo hi a b))), [some (.p (tD t)), some (.p (.int (lo : Nat))), some (.p (.int (hi : Nat))), some (.p (.int (a : Nat))), some (.p (.int (b : Nat))), some (.p (qD (sp t lo))), some (.p (qD (sp t hi)))], dc) := by
    refine seq_go (ρ' := [some (.p (tD t)), some (.p (.int (lo : Nat))), some (.p (.int (hi : Nat))), some (.p (.int (a : Nat))), some (.p (.int (b : Nat))), some (.p (qD (sp t lo))), some (.p (qD (sp t hi)))]) (dc' := dc) ((spar_ok (a := qD (sp t lo)) (b := qD (sp t hi)) (dc' := dc) (by simp only [and_ok, and_exn, and_stuck, opt_some, bind_ap, thn_ap, ret_ap, sopt_ap, eP_ap, eVar_ap, eBin_ap, eUn_ap, eChain_ap, chK_t, chK_f, aNil_ap, aCons_ap, eCall_ap, tstV_ap, asB_b, tAnd_ap, tOr_ap, tNot_ap, eAnd_ap, eOr_ap, eNot_ap, eIf_ap, eApp_ap, eAppK_ap, argB_p1, argB_p2, argB_p3, argB_p4, argB_p5, argB_d1, argB_d2, argB_s2, argB_f2, eAll_ap, eComp_ap, itS_ap, itF_ap, frD, tgN_ap, tgT_ap, seq_ap, sNx_ap, sIf_ap, sRet_ap, rtK_some, sSet_ap, setK_some, sFor_ap, unp_ap, unK_2, unK_3, fnK_rt, fnK_nx, fnK_exn, fnM_ap, List.getElem?_cons_zero, List.getElem?_cons_succ, List.map_cons, List.map_nil, List.length_cons, List.length_nil, List.length_map, List.replicate, List.append_nil, List.cons_append, List.nil_append, Option.map_some, Option.map_none, Option.bind_some, Option.bind_none, if_true, if_false, ite_true, ite_false, Bool.false_eq_true, Bool.true_eq_false, reduceCtorEq, isi_t, len_t, len_l, vLe, vLt, vGt, vGe, vAdd, vSub, sq_t, sq_l, wipeR, Val.ice, Val.frz, datas, Bool.not_true, Bool.not_false, setAll, List.set_cons_zero, List.set_cons_succ, List.set_nil, Nat.reduceAdd, Nat.reduceSub, Nat.reduceLeDiff, decide_true, e1, e2])).trans rfl) (ret_go ?_)
    simp only [eBin_ap, eCall_ap, eApp_ap, aCons_ap, aNil_ap, eVar_ap, eP_ap, List.getElem?_cons_zero, List.getElem?_cons_succ, and_ok, ix0_q, ix1_q, opt_some, m1, m2, m3, m4, m5, s1, ea, argB_p2, er]
    rfl
  exact fn_go sE
/-! ### pure pairs -/
def puB (t : List (Nat × Nat)) (a b lo hi : Nat) : Bool := decide (ivl t lo hi = frN a b)
theorem bt_zero {x b : Nat} (hb : 0 < b) : (frN x b).1 = 0 ↔ x = 0 := by
  have v := Nat.div_mul_cancel (Nat.gcd_dvd_left x b)
  constructor
  · intro h
    have h' : x / Nat.gcd x b = 0 := h
    rw [h', Nat.zero_mul] at v
    exact v.symm
  · rintro rfl
    show 0 / Nat.gcd 0 b = 0
    exact Nat.zero_div _
theorem pure_iff (T : Tn t) {lo hi a b : Nat} (h1 : lo ≤ 60) (h2 : hi ≤ 60) (ha : 1 ≤ a) (hb : 1 ≤ b) : ((((btv t lo hi a b).1 : Nat) : Int) == 0) = puB t a b lo hi := by
  obtain ⟨a1, a2, a3, _⟩ := sp_facts T h1
  obtain ⟨b1, b2, b3, _⟩ := sp_facts T h2
  unfold puB
  rw [Bool.eq_iff_iff, beq_iff_eq, decide_eq_true_eq]
  have z : (btv t lo hi a b).1 = 0 ↔ (dif t lo hi a b).natAbs = 0 := bt_zero (Nat.mul_pos a1.2.1 b1.2.1)
  have d : (dif t lo hi a b).natAbs = 0 ↔ (sp t hi).1 * b * (sp t lo).2 = (sp t lo).1 * a * (sp t hi).2 := by
    unfold dif
    omega
  have e1 : (sp t hi).1 * b * (sp t lo).2 = ((sp t hi).1 * (sp t lo).2) * b := Nat.mul_right_comm _ _ _
  have e2 : (sp t lo).1 * a * (sp t hi).2 = a * ((sp t hi).2 * (sp t lo).1) := by
    rw [Nat.mul_comm (sp t lo).1 a, Nat.mul_assoc, Nat.mul_comm (sp t lo).1]
  rw [e1, e2] at d
  have p1 : 0 < (sp t hi).1 * (sp t lo).2 := Nat.mul_pos b1.1 a1.2.1
  have p2 : 0 < (sp t hi).2 * (sp t lo).1 := Nat.mul_pos b1.2.1 a1.1
  have key : ivl t lo hi = frN a b ↔ ((sp t hi).1 * (sp t lo).2) * b = a * ((sp t hi).2 * (sp t lo).1) := by
    constructor
    · intro e
      have v1 := fr_val (a := (sp t hi).1 * (sp t lo).2) p2
      have v2 := fr_val (a := a) (show 0 < b by omega)
      have r := fr_red (a := a) (b := b) (by omega) (by omega)
      unfold ivl at e
      rw [e] at v1
      -- f1 * Y = X * f2 ; f1 * b = a * f2
      refine Nat.eq_of_mul_eq_mul_right r.2.1 ?_
      calc ((sp t hi).1 * (sp t lo).2) * b * (frN a b).2 = ((sp t hi).1 * (sp t lo).2) * (frN a b).2 * b := Nat.mul_right_comm _ _ _
        _ = (frN a b).1 * ((sp t hi).2 * (sp t lo).1) * b := by rw [v1]
        _ = (frN a b).1 * b * ((sp t hi).2 * (sp t lo).1) := Nat.mul_right_comm _ _ _
        _ = a * (frN a b).2 * ((sp t hi).2 * (sp t lo).1) := by rw [v2]
        _ = a * ((sp t hi).2 * (sp t lo).1) * (frN a b).2 := Nat.mul_right_comm _ _ _
    · intro e
      exact fr_eq p1 p2 (by omega) (by omega) e
  rw [key, ← d, ← z]
  omega
end

end K02

set_option maxHeartbeats 4000000
namespace K02
open PySem PySem.Spec PyProof.Rows L2 DL
/-! ### pure pairs, the nearest key -/
section
variable {dc : Dc} {t : List (Nat × Nat)}
def rgN (lo m : Nat) : List Nat := (List.range m).map fun i => lo + i
theorem it2_n {a b : SE} {ρ : Rho} {lo m : Nat} {hi : Int} (hh : hi = ((lo + m : Nat) : Int)) (ha : a ρ dc = .ok (.p (.int (lo : Nat)), dc)) (hb : b ρ dc = .ok (.p (.int hi), dc)) (hl : lo + m ≤ 100000) : it2 a b ρ dc = .ok ((rgN lo m).map (fun i : Nat => PyData.int i), dc) := by
  subst hh
  unfold it2
  rw [bind_ap, ha, and_ok, bind_ap, hb, and_ok]
  show (if -100000 ≤ (lo : Int) ∧ (lo : Int) ≤ 100000 ∧ -100000 ≤ ((lo + m : Nat) : Int) ∧ ((lo + m : Nat) : Int) ≤ 100000 then SM.ret (rg2D lo (lo + m : Nat)) else fun _ _ => .stuck) ρ dc = _
  rw [if_pos (by omega)]
  have e : rg2D lo (lo + m : Nat) = (rgN lo m).map (fun i : Nat => PyData.int i) := by
    unfold rg2D rgN
    have e1 : (((lo + m : Nat) : Int) - (lo : Int)).toNat = m := by omega
    rw [e1, List.map_map]
    refine List.map_congr_left fun i _ => ?_
    show PyData.int ((lo : Int) + (i : Int)) = PyData.int ((lo + i : Nat) : Int)
    rw [Int.natCast_add]
  rw [e]
  rfl
theorem rgN_mem {lo m x : Nat} (h : x ∈ rgN lo m) : lo ≤ x ∧ x < lo + m := by
  unfold rgN at h
  obtain ⟨i, hi, rfl⟩ := List.mem_map.mp h
  have := List.mem_range.mp hi
  omega
theorem rgN_len (lo m : Nat) : (rgN lo m).length = m := by
  unfold rgN
  rw [List.length_map, List.length_range]
def prN (lo hi : Nat) : Nat × Nat := (lo, hi)
def ppL (t : List (Nat × Nat)) (a b lo : Nat) : List (Nat × Nat) := ((rgN lo (t.length + 1)).filter (puB t a b lo)).map (prN lo)
def ppA (t : List (Nat × Nat)) (a b : Nat) : List (Nat × Nat) := (List.range t.length).flatMap (ppL t a b)
theorem ppL_len (a b lo : Nat) : (ppL t a b lo).length ≤ t.length + 1 := by
  unfold ppL
  rw [List.length_map]
  have := List.length_filter_le (puB t a b lo) (rgN lo (t.length + 1))
  rw [rgN_len] at this
  exact this
theorem ppN_len (a b : Nat) (d : List Nat) : (d.flatMap (ppL t a b)).length ≤ (t.length + 1) * d.length := flat_len d fun lo _ => ppL_len a b lo
abbrev bPure : SS := sSeq (sSet 7 (eApp 2 fm_speed (aCons (eVar 0) (aCons (eVar 5) aNil)))) (sSeq (sSet 8 (eApp 2 fm_speed (aCons (eVar 0) (aCons (eVar 6) aNil))))
      (sIf (tstV (eBin vEq (eApp 2 fm_ratio (aCons (eBin vMul (eBin vIx (eVar 8) (eP (.int 0))) (eBin vIx (eVar 7) (eP (.int 1)))) (aCons (eBin vMul (eBin vIx (eVar 8) (eP (.int 1))) (eBin vIx (eVar 7) (eP (.int 0)))) aNil))) (eVar 3))) (sMutL 4 mAppend (aCons (eTup (aCons (eVar 5) (aCons (eVar 6) aNil))) aNil)) sNx))
abbrev RP9 (t : List (Nat × Nat)) (a b : Nat) (F : List (Nat × Nat)) (x5 x6 x7 x8 : Option Val) : Rho := [some (.p (tD t)), some (.p (.int (a : Nat))), some (.p (.int (b : Nat))), some (.p (qD (frN a b))), some (.ol (F.map qD)), x5, x6, x7, x8]
theorem pure_in (T : Tn t) {a b lo : Nat} {F : List (Nat × Nat)} (hF : F.length ≤ 1000) (hlo : lo < t.length) (x6 x7 x8 : Option Val) : ∃ y6 y7 y8, sFor (it2 (eVar 5) (eBin vAdd (eBin vAdd (eVar 5) (eCall vLen (aCons (eVar 0) aNil))) (eP (.int 1)))) (tgN 6) bPure (RP9 t a b F (some (.p (.int (lo : Nat)))) x6 x7 x8) dc =
    .ok (.nx, RP9 t a b (F ++ ppL t a b lo) (some (.p (.int (lo : Nat)))) y6 y7 y8, dc) := by
  have hl := T.le
  have L := forD_pre (dc := dc) (tg := tgN 6) (g := fun i : Nat => PyData.int i) (l := rgN lo (t.length + 1)) (body := bPure) (I := fun d ρ => ∃ y6 y7 y8, ρ = RP9 t a b (F ++ (d.filter (puB t a b lo)).map (prN lo)) (some (.p (.int (lo : Nat)))) y6 y7 y8) (fun d x r e ρ ⟨y6, y7, y8, hρ⟩ => by
    subst hρ
    have hx := rgN_mem (show x ∈ rgN lo (t.length + 1) by rw [e]; simp)
    have hd : d.length ≤ 13 := by
      have := congrArg List.length e
      rw [rgN_len, List.length_append] at this
      omega
    have hf := List.length_filter_le (puB t a b lo) d
    obtain ⟨a1, a2, a3, _⟩ := sp_facts T (show lo ≤ 60 by omega)
    obtain ⟨b1, b2, b3, _⟩ := sp_facts T (show x ≤ 60 by omega)
    have e1 := speed_eq (dc := dc) T (show lo ≤ 60 by omega)
    have e2 := speed_eq (dc := dc) T (show x ≤ 60 by omega)
    have m1 := mul_N (by decide) (by decide) b2 a3 (by decide)
    have m2 := mul_N (by decide) (by decide) b3 a2 (by decide)
    have er := ratio_N (dc := dc) (a := (sp t x).1 * (sp t lo).2) (Nat.mul_pos b1.2.1 a1.1) (by decide) (b3.mul a2) (by decide)
    have eq := eq_qD (ivl t lo x) (frN a b)
    have et : tstV (eBin vEq (eApp 2 fm_ratio (aCons (eBin vMul (eBin vIx (eVar 8) (eP (.int 0))) (eBin vIx (eVar 7) (eP (.int 1)))) (aCons (eBin vMul (eBin vIx (eVar 8) (eP (.int 1))) (eBin vIx (eVar 7) (eP (.int 0)))) aNil))) (eVar 3)) (RP9 t a b (F ++ (d.filter (puB t a b lo)).map (prN lo)) (some (.p (.int (lo : Nat)))) (some (.p (.int (x : Nat)))) (some (.p (qD (sp t lo)))) (some (.p (qD (sp t x))))) dc = .ok (puB t a b lo x, dc) := by
      have ev : eApp 2 fm_ratio (aCons (eBin vMul (eBin vIx (eVar 8) (eP (.int 0))) (eBin vIx (eVar 7) (eP (.int 1)))) (aCons (eBin vMul (eBin vIx (eVar 8) (eP (.int 1))) (eBin vIx (eVar 7) (eP (.int 0)))) aNil)) (RP9 t a b (F ++ (d.filter (puB t a b lo)).map (prN lo)) (some (.p (.int (lo : Nat)))) (some (.p (.int (x : Nat)))) (some (.p (qD (sp t lo)))) (some (.p (qD (sp t x))))) dc = .ok (.p (qD (ivl t lo x)), dc) := by
        simp only [eBin_ap, eApp_ap, aCons_ap, aNil_ap, eVar_ap, eP_ap, List.getElem?_cons_zero, List.getElem?_cons_succ, and_ok, ix0_q, ix1_q, opt_some, m1, m2, argB_p2, er]
        rfl
      rw [tstV_ap, eBin_ap, ev]
      show ((Res.opt dc (vEq (.p (qD (ivl t lo x))) (.p (qD (frN a b)))))).andThen _ = _
      rw [eq]
      rfl
    have ef : F ++ ((d ++ [x]).filter (puB t a b lo)).map (prN lo) = if puB t a b lo x = true then (F ++ (d.filter (puB t a b lo)).map (prN lo)) ++ [prN lo x] else F ++ (d.filter (puB t a b lo)).map (prN lo) := by
      rw [List.filter_append, List.map_append]
      by_cases c : puB t a b lo x = true
      · rw [if_pos c, List.filter_cons_of_pos c, List.append_assoc]; rfl
      · rw [if_neg c, List.filter_cons_of_neg c]
        show F ++ ((d.filter (puB t a b lo)).map (prN lo) ++ []) = _
        rw [List.append_nil]
    rw [ef]
    refine ⟨RP9 t a b (F ++ (d.filter (puB t a b lo)).map (prN lo)) (some (.p (.int (lo : Nat)))) (some (.p (.int (x : Nat)))) y7 y8, RP9 t a b (if puB t a b lo x = true then (F ++ (d.filter (puB t a b lo)).map (prN lo)) ++ [prN lo x] else F ++ (d.filter (puB t a b lo)).map (prN lo)) (some (.p (.int (lo : Nat)))) (some (.p (.int (x : Nat)))) (some (.p (qD (sp t lo)))) (some (.p (qD (sp t x)))), rfl, ?_, _, _, _, rfl⟩
    refine seq_go (ρ' := RP9 t a b (F ++ (d.filter (puB t a b lo)).map (prN lo)) (some (.p (.int (lo : Nat)))) (some (.p (.int (x : Nat)))) (some (.p (qD (sp t lo)))) y8) (dc' := dc) ((set_go (d := qD (sp t lo)) (dc' := dc) (by simp only [and_ok, and_exn, and_stuck, opt_some, bind_ap, thn_ap, ret_ap, sopt_ap, eP_ap, eVar_ap, eBin_ap, eUn_ap, eChain_ap, chK_t, chK_f, aNil_ap, aCons_ap, eCall_ap, tstV_ap, asB_b, tAnd_ap, tOr_ap, tNot_ap, eAnd_ap, eOr_ap, eNot_ap, eIf_ap, eApp_ap, eAppK_ap, argB_p1, argB_p2, argB_p3, argB_p4, argB_p5, argB_d1, argB_d2, argB_s2, argB_f2, eAll_ap, eComp_ap, itS_ap, itF_ap, frD, tgN_ap, tgT_ap, seq_ap, sNx_ap, sIf_ap, sRet_ap, rtK_some, sSet_ap, setK_some, sFor_ap, unp_ap, unK_2, unK_3, fnK_rt, fnK_nx, fnK_exn, fnM_ap, List.getElem?_cons_zero, List.getElem?_cons_succ, List.map_cons, List.map_nil, List.length_cons, List.length_nil, List.length_map, List.replicate, List.append_nil, List.cons_append, List.nil_append, Option.map_some, Option.map_none, Option.bind_some, Option.bind_none, if_true, if_false, ite_true, ite_false, Bool.false_eq_true, Bool.true_eq_false, reduceCtorEq, isi_t, len_t, len_l, vLe, vLt, vGt, vGe, vAdd, vSub, sq_t, sq_l, wipeR, Val.ice, Val.frz, datas, Bool.not_true, Bool.not_false, setAll, List.set_cons_zero, List.set_cons_succ, List.set_nil, Nat.reduceAdd, Nat.reduceSub, Nat.reduceLeDiff, decide_true, e1])).trans rfl) ?_
    refine seq_go (ρ' := RP9 t a b (F ++ (d.filter (puB t a b lo)).map (prN lo)) (some (.p (.int (lo : Nat)))) (some (.p (.int (x : Nat)))) (some (.p (qD (sp t lo)))) (some (.p (qD (sp t x))))) (dc' := dc) ((set_go (d := qD (sp t x)) (dc' := dc) (by simp only [and_ok, and_exn, and_stuck, opt_some, bind_ap, thn_ap, ret_ap, sopt_ap, eP_ap, eVar_ap, eBin_ap, eUn_ap, eChain_ap, chK_t, chK_f, aNil_ap, aCons_ap, eCall_ap, tstV_ap, asB_b, tAnd_ap, tOr_ap, tNot_ap, eAnd_ap, eOr_ap, eNot_ap, eIf_ap, eApp_ap, eAppK_ap, argB_p1, argB_p2, argB_p3, argB_p4, argB_p5, argB_d1, argB_d2, argB_s2, argB_f2, eAll_ap, eComp_ap, itS_ap, itF_ap, frD, tgN_ap, tgT_ap, seq_ap, sNx_ap, sIf_ap, sRet_ap, rtK_some, sSet_ap, setK_some, sFor_ap, unp_ap, unK_2, unK_3, fnK_rt, fnK_nx, fnK_exn, fnM_ap, List.getElem?_cons_zero, List.getElem?_cons_succ, List.map_cons, List.map_nil, List.length_cons, List.length_nil, List.length_map, List.replicate, List.append_nil, List.cons_append, List.nil_append, Option.map_some, Option.map_none, Option.bind_some, Option.bind_none, if_true, if_false, ite_true, ite_false, Bool.false_eq_true, Bool.true_eq_false, reduceCtorEq, isi_t, len_t, len_l, vLe, vLt, vGt, vGe, vAdd, vSub, sq_t, sq_l, wipeR, Val.ice, Val.frz, datas, Bool.not_true, Bool.not_false, setAll, List.set_cons_zero, List.set_cons_succ, List.set_nil, Nat.reduceAdd, Nat.reduceSub, Nat.reduceLeDiff, decide_true, e2])).trans rfl) ?_
    rw [sIf_ap, et, and_ok]
    by_cases c : puB t a b lo x = true
    · rw [if_pos c, if_pos c]
      refine (app_ok (d := qD (prN lo x)) rfl ?_ (by rw [List.length_map, List.length_append, List.length_map]; omega)).trans ?_
      · simp only [aCons_ap, aNil_ap, eTup, eCall_ap, eVar_ap, List.getElem?_cons_zero, List.getElem?_cons_succ, and_ok]
        rfl
      · simp only [RP9, List.map_append, List.map_cons, List.map_nil, List.set_cons_succ, List.set_cons_zero]
    · rw [if_neg c, if_neg c, sNx_ap]) (RP9 t a b F (some (.p (.int (lo : Nat)))) x6 x7 x8) ⟨x6, x7, x8, by rw [List.filter_nil, List.map_nil, List.append_nil]⟩
  obtain ⟨ρ', e, y6, y7, y8, rfl⟩ := L
  refine ⟨y6, y7, y8, ?_⟩
  have eI : it2 (eVar 5) (eBin vAdd (eBin vAdd (eVar 5) (eCall vLen (aCons (eVar 0) aNil))) (eP (.int 1))) (RP9 t a b F (some (.p (.int (lo : Nat)))) x6 x7 x8) dc = .ok ((rgN lo (t.length + 1)).map (fun i : Nat => PyData.int i), dc) := by
    refine it2_n (lo := lo) (m := t.length + 1) (hi := (lo : Int) + (t.length : Int) + 1) (by omega) rfl ?_ (by omega)
    simp only [eBin_ap, eCall_ap, aCons_ap, aNil_ap, eVar_ap, eP_ap, List.getElem?_cons_zero, List.getElem?_cons_succ, and_ok, len_t, List.length_map, opt_some, vAdd]
  rw [sFor_ap, eI, and_ok]
  exact e
theorem pure_eq (T : Tn t) {a b : Nat} (ha0 : 1 ≤ a) (ha : a ≤ 20) (hb0 : 1 ≤ b) (hb : b ≤ 20) : fm_pure_pairs [.p (tD t), .p (.int (a : Nat)), .p (.int (b : Nat))] dc = .ok (.p (.tuple ((ppA t a b).map qD)), dc) := by
  have hl := T.le
  have n1 := need_tuning_t (n := "tuning") (is_tuning_ok (dc := dc) T)
  have n4 := need_int_t (dc := dc) (s := "above") (i := (a : Int)) (lo := 1) (hi := 20) (by omega) (by omega)
  have n5 := need_int_t (dc := dc) (s := "below") (i := (b : Int)) (lo := 1) (hi := 20) (by omega) (by omega)
  have er := ratio_N (dc := dc) (a := a) (b := b) (k := 30) (by omega) (by decide) (bd9 (by omega)) (by decide)
  have L := forD_pre (dc := dc) (tg := tgN 5) (g := fun i : Nat => PyData.int i) (l := List.range t.length) (body := sFor (it2 (eVar 5) (eBin vAdd (eBin vAdd (eVar 5) (eCall vLen (aCons (eVar 0) aNil))) (eP (.int 1)))) (tgN 6) bPure)
    (I := fun d ρ => ∃ x5 x6 x7 x8, ρ = RP9 t a b (d.flatMap (ppL t a b)) x5 x6 x7 x8) (fun d x r e ρ ⟨x5, x6, x7, x8, hρ⟩ => by
      subst hρ
      obtain ⟨_, h2, _⟩ := pre_nat (c := 0) e
      have hd : d.length ≤ 12 := by
        have := congrArg List.length e
        rw [List.length_range, List.length_append] at this
        omega
      have hF := ppN_len (t := t) a b d
      have hF2 : (t.length + 1) * d.length ≤ 13 * 12 := Nat.mul_le_mul (by omega) hd
      obtain ⟨y6, y7, y8, ei⟩ := pure_in (dc := dc) T (a := a) (b := b) (F := d.flatMap (ppL t a b)) (by omega) h2 x6 x7 x8
      refine ⟨_, _, rfl, ei, some (.p (.int (x : Nat))), y6, y7, y8, ?_⟩
      rw [List.flatMap_append, List.flatMap_cons, List.flatMap_nil, List.append_nil]) (RP9 t a b [] none none none none) ⟨none, none, none, none, rfl⟩
  obtain ⟨ρ', e, x5, x6, x7, x8, rfl⟩ := L
  have eI : it1 (eCall vLen (aCons (eVar 0) aNil)) (RP9 t a b [] none none none none) dc = .ok ((List.range t.length).map (fun i : Nat => PyData.int i), dc) := it1_n (by simp only [and_ok, and_exn, and_stuck, opt_some, bind_ap, thn_ap, ret_ap, sopt_ap, eP_ap, eVar_ap, eBin_ap, eUn_ap, eChain_ap, chK_t, chK_f, aNil_ap, aCons_ap, eCall_ap, tstV_ap, asB_b, tAnd_ap, tOr_ap, tNot_ap, eAnd_ap, eOr_ap, eNot_ap, eIf_ap, eApp_ap, eAppK_ap, argB_p1, argB_p2, argB_p3, argB_p4, argB_p5, argB_d1, argB_d2, argB_s2, argB_f2, eAll_ap, eComp_ap, itS_ap, itF_ap, frD, tgN_ap, tgT_ap, seq_ap, sNx_ap, sIf_ap, sRet_ap, rtK_some, sSet_ap, setK_some, sFor_ap, unp_ap, unK_2, unK_3, fnK_rt, fnK_nx, fnK_exn, fnM_ap, List.getElem?_cons_zero, List.getElem?_cons_succ, List.map_cons, List.map_nil, List.length_cons, List.length_nil, List.length_map, List.replicate, List.append_nil, List.cons_append, List.nil_append, Option.map_some, Option.map_none, Option.bind_some, Option.bind_none, if_true, if_false, ite_true, ite_false, Bool.false_eq_true, Bool.true_eq_false, reduceCtorEq, isi_t, len_t, len_l, vLe, vLt, vGt, vGe, vAdd, vSub, sq_t, sq_l, wipeR, Val.ice, Val.frz, datas, Bool.not_true, Bool.not_false, setAll, List.set_cons_zero, List.set_cons_succ, List.set_nil, Nat.reduceAdd, Nat.reduceSub, Nat.reduceLeDiff, decide_true]) (by omega)
  have sE : sb_pure_pairs [some (.p (tD t)), some (.p (.int (a : Nat))), some (.p (.int (b : Nat))), none, none, none, none, none, none] dc = .ok (.rt (.p (.tuple ((ppA t a b).map qD))), RP9 t a b (ppA t a b) x5 x6 x7 x8, dc) := by
    refine seq_go (dc' := dc) (expr_go (v := .p .none) (by simp only [and_ok, and_exn, and_stuck, opt_some, bind_ap, thn_ap, ret_ap, sopt_ap, eP_ap, eVar_ap, eBin_ap, eUn_ap, eChain_ap, chK_t, chK_f, aNil_ap, aCons_ap, eCall_ap, tstV_ap, asB_b, tAnd_ap, tOr_ap, tNot_ap, eAnd_ap, eOr_ap, eNot_ap, eIf_ap, eApp_ap, eAppK_ap, argB_p1, argB_p2, argB_p3, argB_p4, argB_p5, argB_d1, argB_d2, argB_s2, argB_f2, eAll_ap, eComp_ap, itS_ap, itF_ap, frD, tgN_ap, tgT_ap, seq_ap, sNx_ap, sIf_ap, sRet_ap, rtK_some, sSet_ap, setK_some, sFor_ap, unp_ap, unK_2, unK_3, fnK_rt, fnK_nx, fnK_exn, fnM_ap, List.getElem?_cons_zero, List.getElem?_cons_succ, List.map_cons, List.map_nil, List.length_cons, List.length_nil, List.length_map, List.replicate, List.append_nil, List.cons_append, List.nil_append, Option.map_some, Option.map_none, Option.bind_some, Option.bind_none, if_true, if_false, ite_true, ite_false, Bool.false_eq_true, Bool.true_eq_false, reduceCtorEq, isi_t, len_t, len_l, vLe, vLt, vGt, vGe, vAdd, vSub, sq_t, sq_l, wipeR, Val.ice, Val.frz, datas, Bool.not_true, Bool.not_false, setAll, List.set_cons_zero, List.set_cons_succ, List.set_nil, Nat.reduceAdd, Nat.reduceSub, Nat.reduceLeDiff, decide_true, n1])) ?_
    refine seq_go (dc' := dc) (expr_go (v := .p .none) (by simp only [and_ok, and_exn, and_stuck, opt_some, bind_ap, thn_ap, ret_ap, sopt_ap, eP_ap, eVar_ap, eBin_ap, eUn_ap, eChain_ap, chK_t, chK_f, aNil_ap, aCons_ap, eCall_ap, tstV_ap, asB_b, tAnd_ap, tOr_ap, tNot_ap, eAnd_ap, eOr_ap, eNot_ap, eIf_ap, eApp_ap, eAppK_ap, argB_p1, argB_p2, argB_p3, argB_p4, argB_p5, argB_d1, argB_d2, argB_s2, argB_f2, eAll_ap, eComp_ap, itS_ap, itF_ap, frD, tgN_ap, tgT_ap, seq_ap, sNx_ap, sIf_ap, sRet_ap, rtK_some, sSet_ap, setK_some, sFor_ap, unp_ap, unK_2, unK_3, fnK_rt, fnK_nx, fnK_exn, fnM_ap, List.getElem?_cons_zero, List.getElem?_cons_succ, List.map_cons, List.map_nil, List.length_cons, List.length_nil, List.length_map, List.replicate, List.append_nil, List.cons_append, List.nil_append, Option.map_some, Option.map_none, Option.bind_some, Option.bind_none, if_true, if_false, ite_true, ite_false, Bool.false_eq_true, Bool.true_eq_false, reduceCtorEq, isi_t, len_t, len_l, vLe, vLt, vGt, vGe, vAdd, vSub, sq_t, sq_l, wipeR, Val.ice, Val.frz, datas, Bool.not_true, Bool.not_false, setAll, List.set_cons_zero, List.set_cons_succ, List.set_nil, Nat.reduceAdd, Nat.reduceSub, Nat.reduceLeDiff, decide_true, n4])) ?_
    refine seq_go (dc' := dc) (expr_go (v := .p .none) (by simp only [and_ok, and_exn, and_stuck, opt_some, bind_ap, thn_ap, ret_ap, sopt_ap, eP_ap, eVar_ap, eBin_ap, eUn_ap, eChain_ap, chK_t, chK_f, aNil_ap, aCons_ap, eCall_ap, tstV_ap, asB_b, tAnd_ap, tOr_ap, tNot_ap, eAnd_ap, eOr_ap, eNot_ap, eIf_ap, eApp_ap, eAppK_ap, argB_p1, argB_p2, argB_p3, argB_p4, argB_p5, argB_d1, argB_d2, argB_s2, argB_f2, eAll_ap, eComp_ap, itS_ap, itF_ap, frD, tgN_ap, tgT_ap, seq_ap, sNx_ap, sIf_ap, sRet_ap, rtK_some, sSet_ap, setK_some, sFor_ap, unp_ap, unK_2, unK_3, fnK_rt, fnK_nx, fnK_exn, fnM_ap, List.getElem?_cons_zero, List.getElem?_cons_succ, List.map_cons, List.map_nil, List.length_cons, List.length_nil, List.length_map, List.replicate, List.append_nil, List.cons_append, List.nil_append, Option.map_some, Option.map_none, Option.bind_some, Option.bind_none, if_true, if_false, ite_true, ite_false, Bool.false_eq_true, Bool.true_eq_false, reduceCtorEq, isi_t, len_t, len_l, vLe, vLt, vGt, vGe, vAdd, vSub, sq_t, sq_l, wipeR, Val.ice, Val.frz, datas, Bool.not_true, Bool.not_false, setAll, List.set_cons_zero, List.set_cons_succ, List.set_nil, Nat.reduceAdd, Nat.reduceSub, Nat.reduceLeDiff, decide_true, n5])) ?_
    refine seq_go (ρ' := [some (.p (tD t)), some (.p (.int (a : Nat))), some (.p (.int (b : Nat))), some (.p (qD (frN a b))), none, none, none, none, none]) (dc' := dc) ((set_go (d := qD (frN a b)) (dc' := dc) (by simp only [and_ok, and_exn, and_stuck, opt_some, bind_ap, thn_ap, ret_ap, sopt_ap, eP_ap, eVar_ap, eBin_ap, eUn_ap, eChain_ap, chK_t, chK_f, aNil_ap, aCons_ap, eCall_ap, tstV_ap, asB_b, tAnd_ap, tOr_ap, tNot_ap, eAnd_ap, eOr_ap, eNot_ap, eIf_ap, eApp_ap, eAppK_ap, argB_p1, argB_p2, argB_p3, argB_p4, argB_p5, argB_d1, argB_d2, argB_s2, argB_f2, eAll_ap, eComp_ap, itS_ap, itF_ap, frD, tgN_ap, tgT_ap, seq_ap, sNx_ap, sIf_ap, sRet_ap, rtK_some, sSet_ap, setK_some, sFor_ap, unp_ap, unK_2, unK_3, fnK_rt, fnK_nx, fnK_exn, fnM_ap, List.getElem?_cons_zero, List.getElem?_cons_succ, List.map_cons, List.map_nil, List.length_cons, List.length_nil, List.length_map, List.replicate, List.append_nil, List.cons_append, List.nil_append, Option.map_some, Option.map_none, Option.bind_some, Option.bind_none, if_true, if_false, ite_true, ite_false, Bool.false_eq_true, Bool.true_eq_false, reduceCtorEq, isi_t, len_t, len_l, vLe, vLt, vGt, vGe, vAdd, vSub, sq_t, sq_l, wipeR, Val.ice, Val.frz, datas, Bool.not_true, Bool.not_false, setAll, List.set_cons_zero, List.set_cons_succ, List.set_nil, Nat.reduceAdd, Nat.reduceSub, Nat.reduceLeDiff, decide_true, er])).trans rfl) ?_
    refine seq_go (ρ' := RP9 t a b [] none none none none) (dc' := dc) rfl ?_
    refine seq_go (ρ' := RP9 t a b (ppA t a b) x5 x6 x7 x8) (dc' := dc) ?_ rfl
    rw [sFor_ap, eI, and_ok]
    exact e
  exact fn_go sE
/-! ### the nearest key -/
def nstep (t : List (Nat × Nat)) (lo a b : Nat) (best : Option Nat) (hi : Nat) : Option Nat := match best with
  | none => some hi
  | some k => if ltB (btv t lo hi a b) (btv t lo k a b) = true then some hi else some k
def nrD (t : List (Nat × Nat)) (lo a b : Nat) : Option Nat → PyData
  | none => .none
  | some k => .tuple [.int (k : Nat), qD (btv t lo k a b)]
def le60 (x : Nat) : Bool := decide (x ≤ 60)
theorem bt_B (T : Tn t) {lo hi a b : Nat} (h1 : lo ≤ 60) (h2 : hi ≤ 60) (ha : a ≤ 20) (hb : b ≤ 20) : Bp 130 (btv t lo hi a b) := by
  obtain ⟨_, a2, a3, _⟩ := sp_facts T h1
  obtain ⟨_, b2, b3, _⟩ := sp_facts T h2
  have d := dif_B T h1 h2 ha hb
  exact ⟨(d.le (Nat.div_le_self _ _)).mono (by decide), ((a3.mul b3).le (Nat.div_le_self _ _)).mono (by decide)⟩
theorem near_rg (lo m : Nat) (h : lo ≤ 60) : (rgN lo (m + 1)).filter le60 = rgN lo (min 60 (lo + m) + 1 - lo) := by
  have e1 : m + 1 = (min 60 (lo + m) + 1 - lo) + (m + 1 - (min 60 (lo + m) + 1 - lo)) := by omega
  have e2 : rgN lo (m + 1) = rgN lo (min 60 (lo + m) + 1 - lo) ++ (List.range (m + 1 - (min 60 (lo + m) + 1 - lo))).map (fun i => lo + ((min 60 (lo + m) + 1 - lo) + i)) := by
    conv => lhs; rw [e1]
    unfold rgN
    rw [List.range_add, List.map_append, List.map_map]
    rfl
  rw [e2, List.filter_append]
  have f1 : (rgN lo (min 60 (lo + m) + 1 - lo)).filter le60 = rgN lo (min 60 (lo + m) + 1 - lo) := List.filter_eq_self.mpr fun x hx => by
    have := rgN_mem hx
    unfold le60
    exact decide_eq_true (by omega)
  have f2 : ((List.range (m + 1 - (min 60 (lo + m) + 1 - lo))).map (fun i => lo + ((min 60 (lo + m) + 1 - lo) + i))).filter le60 = [] := List.filter_eq_nil_iff.mpr fun x hx => by
    obtain ⟨i, hi, rfl⟩ := List.mem_map.mp hx
    have := List.mem_range.mp hi
    unfold le60
    rw [decide_eq_true_eq]
    omega
  rw [f1, f2, List.append_nil]
abbrev bNear : SS := sSeq (sSet 6 (eIf (tstV (eBin vLe (eVar 5) (eP (.int 60)))) (eApp 5 fm_beats (aCons (eVar 0) (aCons (eVar 1) (aCons (eVar 5) (aCons (eVar 2) (aCons (eVar 3) aNil)))))) (eP .none)))
    (sIf (tAndD (tstV (eBin vIsNN (eVar 6) (eP .none))) (tOrD (tstV (eBin vIsN (eVar 4) (eP .none))) (tstV (eApp 2 fm_is_less (aCons (eVar 6) (aCons (eBin vIx (eVar 4) (eP (.int 1))) aNil)))))) (sSet 4 (eTup (aCons (eVar 5) (aCons (eVar 6) aNil)))) sNx)
abbrev RN7 (t : List (Nat × Nat)) (lo a b : Nat) (best : Option Nat) (x5 x6 : Option Val) : Rho := [some (.p (tD t)), some (.p (.int (lo : Nat))), some (.p (.int (a : Nat))), some (.p (.int (b : Nat))), some (.p (nrD t lo a b best)), x5, x6]
def BestOk (best : Option Nat) : Prop := ∀ k, best = some k → k ≤ 60
theorem nstep_ok {lo a b x : Nat} {best : Option Nat} (h : BestOk best) (hx : x ≤ 60) : BestOk (nstep t lo a b best x) := by
  intro k hk
  cases best with
  | none => cases hk; exact hx
  | some j =>
    unfold nstep at hk
    by_cases c : ltB (btv t lo x a b) (btv t lo j a b) = true
    · simp only [c, if_true] at hk
      cases hk; exact hx
    · simp only [c, if_false] at hk
      cases hk; exact h _ rfl
theorem near_step (T : Tn t) {lo a b x : Nat} (h1 : lo ≤ 60) (ha0 : 1 ≤ a) (ha : a ≤ 20) (hb0 : 1 ≤ b) (hb : b ≤ 20) {best : Option Nat} (h : BestOk best) (x6 : Option Val) : ∃ y6, bNear (RN7 t lo a b best (some (.p (.int (x : Nat)))) x6) dc = .ok (.nx, RN7 t lo a b (if le60 x = true then nstep t lo a b best x else best) (some (.p (.int (x : Nat)))) y6, dc) := by
  have el : tstV (eBin vLe (eVar 5) (eP (.int 60))) (RN7 t lo a b best (some (.p (.int (x : Nat)))) x6) dc = .ok (le60 x, dc) := by
    have := le_N x 60
    have e : vLe (.p (.int (x : Nat))) (.p (.int 60)) = some (.p (.bool (decide (x ≤ 60)))) := this
    simp only [tstV_ap, eBin_ap, eVar_ap, eP_ap, List.getElem?_cons_zero, List.getElem?_cons_succ, and_ok, e, opt_some, asB_b]
    rfl
  by_cases c : x ≤ 60
  · have c' : le60 x = true := decide_eq_true c
    rw [if_pos c']
    have eb := beats_eq (dc := dc) T h1 c ha0 ha hb0 hb
    refine ⟨some (.p (qD (btv t lo x a b))), ?_⟩
    refine seq_go (ρ' := RN7 t lo a b best (some (.p (.int (x : Nat)))) (some (.p (qD (btv t lo x a b))))) (dc' := dc) ((set_go (d := qD (btv t lo x a b)) (dc' := dc) ?_).trans rfl) ?_
    · rw [eIf_ap, el, and_ok, c']
      simp only [if_true, eApp_ap, aCons_ap, aNil_ap, eVar_ap, List.getElem?_cons_zero, List.getElem?_cons_succ, and_ok, argB_p5, eb]
    · have e1 : tstV (eBin vIsNN (eVar 6) (eP .none)) (RN7 t lo a b best (some (.p (.int (x : Nat)))) (some (.p (qD (btv t lo x a b))))) dc = .ok (true, dc) := rfl
      cases best with
      | none => rfl
      | some k =>
        have hk := h k rfl
        have e2 : tstV (eBin vIsN (eVar 4) (eP .none)) (RN7 t lo a b (some k) (some (.p (.int (x : Nat)))) (some (.p (qD (btv t lo x a b))))) dc = .ok (false, dc) := rfl
        have i1 : vIx (.p (nrD t lo a b (some k))) (.p (.int 1)) = some (.p (qD (btv t lo k a b))) := by
          unfold nrD
          rw [ix_t, at_1]
          rfl
        have e3 := is_less_eq (dc := dc) (by decide) (by decide) (bt_B T h1 c ha hb) (bt_B T h1 hk ha hb)
        have e4 : tstV (eApp 2 fm_is_less (aCons (eVar 6) (aCons (eBin vIx (eVar 4) (eP (.int 1))) aNil))) (RN7 t lo a b (some k) (some (.p (.int (x : Nat)))) (some (.p (qD (btv t lo x a b))))) dc = .ok (ltB (btv t lo x a b) (btv t lo k a b), dc) := by
          simp only [tstV_ap, eApp_ap, aCons_ap, aNil_ap, eBin_ap, eVar_ap, eP_ap, List.getElem?_cons_zero, List.getElem?_cons_succ, and_ok, i1, opt_some, argB_p2, e3, asB_b]
        rw [sIf_ap, tAnd_ap, e1, and_ok]
        simp only [if_true]
        rw [tOr_ap, e2, and_ok]
        simp only [Bool.false_eq_true, if_false]
        rw [e4, and_ok]
        unfold nstep
        by_cases z : ltB (btv t lo x a b) (btv t lo k a b) = true
        · simp only [z, if_true]
          rfl
        · have z' : ltB (btv t lo x a b) (btv t lo k a b) = false := by simpa using z
          simp only [z', Bool.false_eq_true, if_false]
          rfl
  · have c' : le60 x = false := decide_eq_false c
    rw [if_neg (by rw [c']; simp)]
    refine ⟨some (.p .none), ?_⟩
    refine seq_go (ρ' := RN7 t lo a b best (some (.p (.int (x : Nat)))) (some (.p .none))) (dc' := dc) ((set_go (d := .none) (dc' := dc) ?_).trans rfl) rfl
    rw [eIf_ap, el, and_ok, c']
    rfl
theorem nearest_eq (T : Tn t) {lo a b : Nat} (h1 : lo < t.length) (ha0 : 1 ≤ a) (ha : a ≤ 20) (hb0 : 1 ≤ b) (hb : b ≤ 20) : fm_nearest [.p (tD t), .p (.int (lo : Nat)), .p (.int (a : Nat)), .p (.int (b : Nat))] dc =
    .ok (.p (nrD t lo a b ((rgN lo (min 60 (lo + 5 * t.length) + 1 - lo)).foldl (nstep t lo a b) none)), dc) := by
  have hl := T.le
  have n1 := need_tuning_t (n := "tuning") (is_tuning_ok (dc := dc) T)
  have n2 := need_int_t (dc := dc) (s := "low") (i := (lo : Int)) (lo := 0) (hi := (t.length : Int) - 1) (by omega) (by omega)
  have n4 := need_int_t (dc := dc) (s := "above") (i := (a : Int)) (lo := 1) (hi := 20) (by omega) (by omega)
  have n5 := need_int_t (dc := dc) (s := "below") (i := (b : Int)) (lo := 1) (hi := 20) (by omega) (by omega)
  have L := forD_pre (dc := dc) (tg := tgN 5) (g := fun i : Nat => PyData.int i) (l := rgN lo (5 * t.length + 1)) (body := bNear) (I := fun d ρ => BestOk ((d.filter le60).foldl (nstep t lo a b) none) ∧ ∃ x5 x6, ρ = RN7 t lo a b ((d.filter le60).foldl (nstep t lo a b) none) x5 x6) (fun d x r e ρ ⟨hB, x5, x6, hρ⟩ => by
    subst hρ
    obtain ⟨y6, es⟩ := near_step (dc := dc) T (x := x) (show lo ≤ 60 by omega) ha0 ha hb0 hb hB x6
    have ef : ((d ++ [x]).filter le60).foldl (nstep t lo a b) none = if le60 x = true then nstep t lo a b ((d.filter le60).foldl (nstep t lo a b) none) x else (d.filter le60).foldl (nstep t lo a b) none := by
      rw [List.filter_append, List.foldl_append]
      by_cases c : le60 x = true
      · rw [if_pos c, List.filter_cons_of_pos c]; rfl
      · rw [if_neg c, List.filter_cons_of_neg c]; rfl
    rw [ef]
    refine ⟨_, _, rfl, es, ?_, some (.p (.int (x : Nat))), y6, rfl⟩
    by_cases c : le60 x = true
    · rw [if_pos c]
      exact nstep_ok hB (of_decide_eq_true c)
    · rw [if_neg c]; exact hB) (RN7 t lo a b none none none) ⟨(fun k hk => by cases hk), none, none, rfl⟩
  obtain ⟨ρ', e, _, x5, x6, rfl⟩ := L
  rw [near_rg lo (5 * t.length) (by omega)] at e
  have eI : it2 (eVar 1) (eBin vAdd (eBin vAdd (eVar 1) (eBin vMul (eP (.int 5)) (eCall vLen (aCons (eVar 0) aNil)))) (eP (.int 1))) (RN7 t lo a b none none none) dc = .ok ((rgN lo (5 * t.length + 1)).map (fun i : Nat => PyData.int i), dc) := by
    refine it2_n (lo := lo) (m := 5 * t.length + 1) (hi := (lo : Int) + ((5 * t.length : Nat) : Int) + 1) (by omega) rfl ?_ (by omega)
    have em : vMul (.p (.int 5)) (.p (.int (t.length : Nat))) = some (.p (.int ((5 * t.length : Nat) : Int))) := mul_N (i := 5) (j := t.length) (k := 30) (l := 30) (by decide) (by decide) (bd9 (by decide)) (bd9 (by omega)) (by decide)
    simp only [eBin_ap, eCall_ap, aCons_ap, aNil_ap, eVar_ap, eP_ap, List.getElem?_cons_zero, List.getElem?_cons_succ, and_ok, len_t, List.length_map, opt_some, em, vAdd]
  have sE : sb_nearest [some (.p (tD t)), some (.p (.int (lo : Nat))), some (.p (.int (a : Nat))), some (.p (.int (b : Nat))), none, none, none] dc = .ok (.rt (.p (nrD t lo a b ((rgN lo (min 60 (lo + 5 * t.length) + 1 - lo)).foldl (nstep t lo a b) none))), RN7 t lo a b ((rgN lo (min 60 (lo + 5 * t.length) + 1 - lo)).foldl (nstep t lo a b) none) x5 x6, dc) := by
    refine seq_go (dc' := dc) (expr_go (v := .p .none) (by simp only [and_ok, and_exn, and_stuck, opt_some, bind_ap, thn_ap, ret_ap, sopt_ap, eP_ap, eVar_ap, eBin_ap, eUn_ap, eChain_ap, chK_t, chK_f, aNil_ap, aCons_ap, eCall_ap, tstV_ap, asB_b, tAnd_ap, tOr_ap, tNot_ap, eAnd_ap, eOr_ap, eNot_ap, eIf_ap, eApp_ap, eAppK_ap, argB_p1, argB_p2, argB_p3, argB_p4, argB_p5, argB_d1, argB_d2, argB_s2, argB_f2, eAll_ap, eComp_ap, itS_ap, itF_ap, frD, tgN_ap, tgT_ap, seq_ap, sNx_ap, sIf_ap, sRet_ap, rtK_some, sSet_ap, setK_some, sFor_ap, unp_ap, unK_2, unK_3, fnK_rt, fnK_nx, fnK_exn, fnM_ap, List.getElem?_cons_zero, List.getElem?_cons_succ, List.map_cons, List.map_nil, List.length_cons, List.length_nil, List.length_map, List.replicate, List.append_nil, List.cons_append, List.nil_append, Option.map_some, Option.map_none, Option.bind_some, Option.bind_none, if_true, if_false, ite_true, ite_false, Bool.false_eq_true, Bool.true_eq_false, reduceCtorEq, isi_t, len_t, len_l, vLe, vLt, vGt, vGe, vAdd, vSub, sq_t, sq_l, wipeR, Val.ice, Val.frz, datas, Bool.not_true, Bool.not_false, setAll, List.set_cons_zero, List.set_cons_succ, List.set_nil, Nat.reduceAdd, Nat.reduceSub, Nat.reduceLeDiff, decide_true, n1])) ?_
    refine seq_go (dc' := dc) (expr_go (v := .p .none) (by simp only [and_ok, and_exn, and_stuck, opt_some, bind_ap, thn_ap, ret_ap, sopt_ap, eP_ap, eVar_ap, eBin_ap, eUn_ap, eChain_ap, chK_t, chK_f, aNil_ap, aCons_ap, eCall_ap, tstV_ap, asB_b, tAnd_ap, tOr_ap, tNot_ap, eAnd_ap, eOr_ap, eNot_ap, eIf_ap, eApp_ap, eAppK_ap, argB_p1, argB_p2, argB_p3, argB_p4, argB_p5, argB_d1, argB_d2, argB_s2, argB_f2, eAll_ap, eComp_ap, itS_ap, itF_ap, frD, tgN_ap, tgT_ap, seq_ap, sNx_ap, sIf_ap, sRet_ap, rtK_some, sSet_ap, setK_some, sFor_ap, unp_ap, unK_2, unK_3, fnK_rt, fnK_nx, fnK_exn, fnM_ap, List.getElem?_cons_zero, List.getElem?_cons_succ, List.map_cons, List.map_nil, List.length_cons, List.length_nil, List.length_map, List.replicate, List.append_nil, List.cons_append, List.nil_append, Option.map_some, Option.map_none, Option.bind_some, Option.bind_none, if_true, if_false, ite_true, ite_false, Bool.false_eq_true, Bool.true_eq_false, reduceCtorEq, isi_t, len_t, len_l, vLe, vLt, vGt, vGe, vAdd, vSub, sq_t, sq_l, wipeR, Val.ice, Val.frz, datas, Bool.not_true, Bool.not_false, setAll, List.set_cons_zero, List.set_cons_succ, List.set_nil, Nat.reduceAdd, Nat.reduceSub, Nat.reduceLeDiff, decide_true, n2])) ?_
    refine seq_go (dc' := dc) (expr_go (v := .p .none) (by simp only [and_ok, and_exn, and_stuck, opt_some, bind_ap, thn_ap, ret_ap, sopt_ap, eP_ap, eVar_ap, eBin_ap, eUn_ap, eChain_ap, chK_t, chK_f, aNil_ap, aCons_ap, eCall_ap, tstV_ap, asB_b, tAnd_ap, tOr_ap, tNot_ap, eAnd_ap, eOr_ap, eNot_ap, eIf_ap, eApp_ap, eAppK_ap, argB_p1, argB_p2, argB_p3, argB_p4, argB_p5, argB_d1, argB_d2, argB_s2, argB_f2, eAll_ap, eComp_ap, itS_ap, itF_ap, frD, tgN_ap, tgT_ap, seq_ap, sNx_ap, sIf_ap, sRet_ap, rtK_some, sSet_ap, setK_some, sFor_ap, unp_ap, unK_2, unK_3, fnK_rt, fnK_nx, fnK_exn, fnM_ap, List.getElem?_cons_zero, List.getElem?_cons_succ, List.map_cons, List.map_nil, List.length_cons, List.length_nil, List.length_map, List.replicate, List.append_nil, List.cons_append, List.nil_append, Option.map_some, Option.map_none, Option.bind_some, Option.bind_none, if_true, if_false, ite_true, ite_false, Bool.false_eq_true, Bool.true_eq_false, reduceCtorEq, isi_t, len_t, len_l, vLe, vLt, vGt, vGe, vAdd, vSub, sq_t, sq_l, wipeR, Val.ice, Val.frz, datas, Bool.not_true, Bool.not_false, setAll, List.set_cons_zero, List.set_cons_succ, List.set_nil, Nat.reduceAdd, Nat.reduceSub, Nat.reduceLeDiff, decide_true, n4])) ?_
    refine seq_go (dc' := dc) (expr_go (v := .p .none) (by simp only [and_ok, and_exn, and_stuck, opt_some, bind_ap, thn_ap, ret_ap, sopt_ap, eP_ap, eVar_ap, eBin_ap, eUn_ap, eChain_ap, chK_t, chK_f, aNil_ap, aCons_ap, eCall_ap, tstV_ap, asB_b, tAnd_ap, tOr_ap, tNot_ap, eAnd_ap, eOr_ap, eNot_ap, eIf_ap, eApp_ap, eAppK_ap, argB_p1, argB_p2, argB_p3, argB_p4, argB_p5, argB_d1, argB_d2, argB_s2, argB_f2, eAll_ap, eComp_ap, itS_ap, itF_ap, frD, tgN_ap, tgT_ap, seq_ap, sNx_ap, sIf_ap, sRet_ap, rtK_some, sSet_ap, setK_some, sFor_ap, unp_ap, unK_2, unK_3, fnK_rt, fnK_nx, fnK_exn, fnM_ap, List.getElem?_cons_zero, List.getElem?_cons_succ, List.map_cons, List.map_nil, List.length_cons, List.length_nil, List.length_map, List.replicate, List.append_nil, List.cons_append, List.nil_append, Option.map_some, Option.map_none, Option.bind_some, Option.bind_none, if_true, if_false, ite_true, ite_false, Bool.false_eq_true, Bool.true_eq_false, reduceCtorEq, isi_t, len_t, len_l, vLe, vLt, vGt, vGe, vAdd, vSub, sq_t, sq_l, wipeR, Val.ice, Val.frz, datas, Bool.not_true, Bool.not_false, setAll, List.set_cons_zero, List.set_cons_succ, List.set_nil, Nat.reduceAdd, Nat.reduceSub, Nat.reduceLeDiff, decide_true, n5])) ?_
    refine seq_go (ρ' := RN7 t lo a b none none none) (dc' := dc) rfl ?_
    refine seq_go (ρ' := RN7 t lo a b ((rgN lo (min 60 (lo + 5 * t.length) + 1 - lo)).foldl (nstep t lo a b) none) x5 x6) (dc' := dc) ?_ ?_
    · rw [sFor_ap, eI, and_ok]
      exact e
    · rfl
  exact fn_go sE
end

end K02

set_option maxHeartbeats 4000000
namespace K02
open PySem PySem.Spec PyProof.Rows L2 DL
/-! ### commas, moved tunings -/
section
variable {dc : Dc} {t : List (Nat × Nat)}
theorem oct_fr {a b : Nat} (ha : 0 < a) (hb : 0 < b) : octF (frN a b).1 (frN a b).2 = octF a b := by
  have r := fr_red ha hb
  exact oct_eq (p := 0) (q := 0) r.1 r.2.1 ha hb (by rw [fr_val hb])
theorem comma_eq {a b n : Nat} (ha0 : 1 ≤ a) (ha : a ≤ 20) (hb0 : 1 ≤ b) (hb : b ≤ 20) (hn : n ≤ 12) : fm_comma [.p (.int (a : Nat)), .p (.int (b : Nat)), .p (.int (n : Nat))] dc = .ok (.p (qD (octF (a ^ n) (b ^ n))), dc) := by
  have n1 := need_int_t (dc := dc) (s := "above") (i := (a : Int)) (lo := 1) (hi := 20) (by omega) (by omega)
  have n2 := need_int_t (dc := dc) (s := "below") (i := (b : Int)) (lo := 1) (hi := 20) (by omega) (by omega)
  have n3 := need_int_t (dc := dc) (s := "many") (i := (n : Int)) (lo := 0) (hi := 12) (by omega) (by omega)
  have Ba : Bd 5 a := by unfold Bd; omega
  have Bb : Bd 5 b := by unfold Bd; omega
  have p1 := power_eq (dc := dc) (n := n) (by decide) (by decide) Ba (by omega)
  have p2 := power_eq (dc := dc) (n := n) (by decide) (by decide) Bb (by omega)
  have a0 : 0 < a ^ n := Nat.pow_pos (by omega)
  have b0 : 0 < b ^ n := Nat.pow_pos (by omega)
  have B1 : Bd 61 (a ^ n) := (pow_B Ba n).mono (by omega)
  have B2 : Bd 61 (b ^ n) := (pow_B Bb n).mono (by omega)
  have er := ratio_N (dc := dc) (a := a ^ n) b0 (by decide) B2 (by decide)
  have r := fr_red a0 b0
  have eo := in_octave_eq (dc := dc) (k := 61) r.1 r.2.1 (B1.le (Nat.div_le_self _ _)) (B2.le (Nat.div_le_self _ _)) (by decide) (by decide)
  rw [oct_fr a0 b0] at eo
  have eo' : fm_in_octave [.p (qD (frN (a ^ n) (b ^ n)))] dc = .ok (.p (qD (octF (a ^ n) (b ^ n))), dc) := eo
  have sE : sb_comma [some (.p (.int (a : Nat))), some (.p (.int (b : Nat))), some (.p (.int (n : Nat)))] dc = .ok (.rt (.p (qD (octF (a ^ n) (b ^ n)))), [some (.p (.int (a : Nat))), some (.p (.int (b : Nat))), some (.p (.int (n : Nat)))], dc) := by
    refine seq_go (dc' := dc) (expr_go (v := .p .none) (by simp only [and_ok, and_exn, and_stuck, opt_some, bind_ap, thn_ap, ret_ap, sopt_ap, eP_ap, eVar_ap, eBin_ap, eUn_ap, eChain_ap, chK_t, chK_f, aNil_ap, aCons_ap, eCall_ap, tstV_ap, asB_b, tAnd_ap, tOr_ap, tNot_ap, eAnd_ap, eOr_ap, eNot_ap, eIf_ap, eApp_ap, eAppK_ap, argB_p1, argB_p2, argB_p3, argB_p4, argB_p5, argB_d1, argB_d2, argB_s2, argB_f2, eAll_ap, eComp_ap, itS_ap, itF_ap, frD, tgN_ap, tgT_ap, seq_ap, sNx_ap, sIf_ap, sRet_ap, rtK_some, sSet_ap, setK_some, sFor_ap, unp_ap, unK_2, unK_3, fnK_rt, fnK_nx, fnK_exn, fnM_ap, List.getElem?_cons_zero, List.getElem?_cons_succ, List.map_cons, List.map_nil, List.length_cons, List.length_nil, List.length_map, List.replicate, List.append_nil, List.cons_append, List.nil_append, Option.map_some, Option.map_none, Option.bind_some, Option.bind_none, if_true, if_false, ite_true, ite_false, Bool.false_eq_true, Bool.true_eq_false, reduceCtorEq, isi_t, len_t, len_l, vLe, vLt, vGt, vGe, vAdd, vSub, sq_t, sq_l, wipeR, Val.ice, Val.frz, datas, Bool.not_true, Bool.not_false, setAll, List.set_cons_zero, List.set_cons_succ, List.set_nil, Nat.reduceAdd, Nat.reduceSub, Nat.reduceLeDiff, decide_true, n1])) ?_
    refine seq_go (dc' := dc) (expr_go (v := .p .none) (by simp only [and_ok, and_exn, and_stuck, opt_some, bind_ap, thn_ap, ret_ap, sopt_ap, eP_ap, eVar_ap, eBin_ap, eUn_ap, eChain_ap, chK_t, chK_f, aNil_ap, aCons_ap, eCall_ap, tstV_ap, asB_b, tAnd_ap, tOr_ap, tNot_ap, eAnd_ap, eOr_ap, eNot_ap, eIf_ap, eApp_ap, eAppK_ap, argB_p1, argB_p2, argB_p3, argB_p4, argB_p5, argB_d1, argB_d2, argB_s2, argB_f2, eAll_ap, eComp_ap, itS_ap, itF_ap, frD, tgN_ap, tgT_ap, seq_ap, sNx_ap, sIf_ap, sRet_ap, rtK_some, sSet_ap, setK_some, sFor_ap, unp_ap, unK_2, unK_3, fnK_rt, fnK_nx, fnK_exn, fnM_ap, List.getElem?_cons_zero, List.getElem?_cons_succ, List.map_cons, List.map_nil, List.length_cons, List.length_nil, List.length_map, List.replicate, List.append_nil, List.cons_append, List.nil_append, Option.map_some, Option.map_none, Option.bind_some, Option.bind_none, if_true, if_false, ite_true, ite_false, Bool.false_eq_true, Bool.true_eq_false, reduceCtorEq, isi_t, len_t, len_l, vLe, vLt, vGt, vGe, vAdd, vSub, sq_t, sq_l, wipeR, Val.ice, Val.frz, datas, Bool.not_true, Bool.not_false, setAll, List.set_cons_zero, List.set_cons_succ, List.set_nil, Nat.reduceAdd, Nat.reduceSub, Nat.reduceLeDiff, decide_true, n2])) ?_
    refine seq_go (dc' := dc) (expr_go (v := .p .none) (by simp only [and_ok, and_exn, and_stuck, opt_some, bind_ap, thn_ap, ret_ap, sopt_ap, eP_ap, eVar_ap, eBin_ap, eUn_ap, eChain_ap, chK_t, chK_f, aNil_ap, aCons_ap, eCall_ap, tstV_ap, asB_b, tAnd_ap, tOr_ap, tNot_ap, eAnd_ap, eOr_ap, eNot_ap, eIf_ap, eApp_ap, eAppK_ap, argB_p1, argB_p2, argB_p3, argB_p4, argB_p5, argB_d1, argB_d2, argB_s2, argB_f2, eAll_ap, eComp_ap, itS_ap, itF_ap, frD, tgN_ap, tgT_ap, seq_ap, sNx_ap, sIf_ap, sRet_ap, rtK_some, sSet_ap, setK_some, sFor_ap, unp_ap, unK_2, unK_3, fnK_rt, fnK_nx, fnK_exn, fnM_ap, List.getElem?_cons_zero, List.getElem?_cons_succ, List.map_cons, List.map_nil, List.length_cons, List.length_nil, List.length_map, List.replicate, List.append_nil, List.cons_append, List.nil_append, Option.map_some, Option.map_none, Option.bind_some, Option.bind_none, if_true, if_false, ite_true, ite_false, Bool.false_eq_true, Bool.true_eq_false, reduceCtorEq, isi_t, len_t, len_l, vLe, vLt, vGt, vGe, vAdd, vSub, sq_t, sq_l, wipeR, Val.ice, Val.frz, datas, Bool.not_true, Bool.not_false, setAll, List.set_cons_zero, List.set_cons_succ, List.set_nil, Nat.reduceAdd, Nat.reduceSub, Nat.reduceLeDiff, decide_true, n3])) (ret_go ?_)
    simp only [eApp_ap, aCons_ap, aNil_ap, eVar_ap, List.getElem?_cons_zero, List.getElem?_cons_succ, and_ok, argB_p2, p1, p2, er, argB_p1, eo']
  exact fn_go sE
theorem lcomma_eq {ρ : Rho} {i j k : Nat} {a b n : Nat} (hi : ρ[i]? = some (some (.p (.int (a : Nat))))) (hj : ρ[j]? = some (some (.p (.int (b : Nat))))) (hk : ρ[k]? = some (some (.p (.int (n : Nat))))) (ha0 : 1 ≤ a) (ha : a ≤ 20) (hb0 : 1 ≤ b) (hb : b ≤ 20) (hn : n ≤ 12) :
    eApp 2 fm__law_folded (aCons (eApp 2 fm__law_power (aCons (eVar i) (aCons (eVar k) aNil))) (aCons (eApp 2 fm__law_power (aCons (eVar j) (aCons (eVar k) aNil))) aNil)) ρ dc = .ok (.p (qD (octF (a ^ n) (b ^ n))), dc) := by
  have Ba : Bd 5 a := by unfold Bd; omega
  have Bb : Bd 5 b := by unfold Bd; omega
  have p1 := lpower_eq (dc := dc) (n := n) (by decide) (by decide) Ba (by omega)
  have p2 := lpower_eq (dc := dc) (n := n) (by decide) (by decide) Bb (by omega)
  have a0 : 0 < a ^ n := Nat.pow_pos (by omega)
  have b0 : 0 < b ^ n := Nat.pow_pos (by omega)
  have B1 : Bd 61 (a ^ n) := (pow_B Ba n).mono (by omega)
  have B2 : Bd 61 (b ^ n) := (pow_B Bb n).mono (by omega)
  have eo := lfold_eq (dc := dc) (k := 61) a0 b0 B1 B2 (by decide) (by decide)
  have vi : eVar i ρ dc = .ok (.p (.int (a : Nat)), dc) := by rw [eVar_ap, hi]
  have vj : eVar j ρ dc = .ok (.p (.int (b : Nat)), dc) := by rw [eVar_ap, hj]
  have vk : eVar k ρ dc = .ok (.p (.int (n : Nat)), dc) := by rw [eVar_ap, hk]
  simp only [eApp_ap, aCons_ap, aNil_ap, vi, vj, vk, and_ok, argB_p2, p1, p2, eo]
def mv1 (q p : Nat × Nat) : Nat × Nat := octF (p.1 * q.2) (p.2 * q.1)
def mvL (t : List (Nat × Nat)) (i : Nat) : List (Nat × Nat) := t.map (mv1 (t.getD i (1, 1)))
theorem bd60 {a b : Nat} (h : a ≤ 1000000000) (h2 : b ≤ 1000000000) : a * b ≤ 1000000000000000000 := Nat.mul_le_mul h h2
theorem mv_facts (T : Tn t) {i : Nat} {p : Nat × Nat} (hp : p ∈ t) : 0 < p.1 * (t.getD i (1, 1)).2 ∧ 0 < p.2 * (t.getD i (1, 1)).1 ∧ Bd 60 (p.1 * (t.getD i (1, 1)).2) ∧ Bd 60 (p.2 * (t.getD i (1, 1)).1) ∧ Red (mv1 (t.getD i (1, 1)) p) ∧ Bp 62 (mv1 (t.getD i (1, 1)) p) := by
  obtain ⟨q1, q2, q3⟩ := tone_el T i
  obtain ⟨p1, _, _, p2, p3⟩ := T.el p hp
  have x0 : 0 < p.1 * (t.getD i (1, 1)).2 := Nat.mul_pos p1.1 q1.2.1
  have y0 : 0 < p.2 * (t.getD i (1, 1)).1 := Nat.mul_pos p1.2.1 q1.1
  have x1 := bd60 p2 q3
  have y1 := bd60 p3 q2
  have o := oct_le (M := 2000000000000000000) x0 y0 (by omega) (by omega)
  refine ⟨x0, y0, by unfold Bd; omega, by unfold Bd; omega, (oct_red x0 y0).1, ?_, ?_⟩
  · have := o.1
    unfold Bd mv1
    omega
  · have := o.2
    unfold Bd mv1
    omega
theorem moved_eq (T : Tn t) {i : Nat} (hi : i < t.length) : fm_moved [.p (tD t), .p (.int (i : Nat))] dc = .ok (.p (tD (srt (mvL t i))), dc) := by
  have hl := T.le
  have n1 := need_tuning_t (n := "tuning") (is_tuning_ok (dc := dc) T)
  have n2 := need_int_t (dc := dc) (s := "tone") (i := (i : Int)) (lo := 0) (hi := (t.length : Int) - 1) (by omega) (by omega)
  have ix := ix_tone hi
  obtain ⟨q1, q2, q3⟩ := tone_el T i
  have ec := compM (it := itS (eVar 0)) (tg := tgN 3) (vs := [3]) (elt := eApp 1 fm_in_octave (aCons (eApp 2 fm_ratio (aCons (eBin vMul (eBin vIx (eVar 3) (eP (.int 0))) (eBin vIx (eVar 2) (eP (.int 1)))) (aCons (eBin vMul (eBin vIx (eVar 3) (eP (.int 1))) (eBin vIx (eVar 2) (eP (.int 0)))) aNil))) aNil)) (g := qD) (l := t) (f := fun p => qD (mv1 (t.getD i (1, 1)) p)) (ρ := [some (.p (tD t)), some (.p (.int (i : Nat))), some (.p (qD (t.getD i (1, 1)))), none]) (dc := dc) rfl (by omega)
    (fun p hp => ⟨[some (.p (tD t)), some (.p (.int (i : Nat))), some (.p (qD (t.getD i (1, 1)))), some (.p (qD p))], rfl, by
      obtain ⟨p1, _, _, p2, p3⟩ := T.el p hp
      obtain ⟨x0, y0, x1, y1, _, _⟩ := mv_facts T (i := i) hp
      have m1 := mul_N (by decide) (by decide) (bd9 p2) (bd9 q3) (by decide)
      have m2 := mul_N (by decide) (by decide) (bd9 p3) (bd9 q2) (by decide)
      have er := ratio_N (dc := dc) (a := p.1 * (t.getD i (1, 1)).2) y0 (by decide) y1 (by decide)
      have r := fr_red x0 y0
      have eo := in_octave_eq (dc := dc) (k := 60) r.1 r.2.1 (x1.le (Nat.div_le_self _ _)) (y1.le (Nat.div_le_self _ _)) (by decide) (by decide)
      rw [oct_fr x0 y0] at eo
      have eo' : fm_in_octave [.p (qD (frN (p.1 * (t.getD i (1, 1)).2) (p.2 * (t.getD i (1, 1)).1)))] dc = .ok (.p (qD (mv1 (t.getD i (1, 1)) p)), dc) := eo
      simp only [eBin_ap, eApp_ap, aCons_ap, aNil_ap, eVar_ap, eP_ap, List.getElem?_cons_zero, List.getElem?_cons_succ, and_ok, ix0_q, ix1_q, opt_some, m1, m2, argB_p2, er, argB_p1, eo']⟩)
  have em : t.map (fun p => qD (mv1 (t.getD i (1, 1)) p)) = (mvL t i).map qD := by unfold mvL; rw [List.map_map]; rfl
  rw [em] at ec
  have eo := in_order_eq (dc := dc) (v := .list ((mvL t i).map qD)) (l := mvL t i) (k := 62) rfl (by unfold mvL; rw [List.length_map]; omega) (fun p hp => by
    obtain ⟨x, hx, rfl⟩ := List.mem_map.mp hp
    exact (mv_facts T (i := i) hx).2.2.2.2.1) (by decide) (by decide) (fun p hp => by
    obtain ⟨x, hx, rfl⟩ := List.mem_map.mp hp
    exact (mv_facts T (i := i) hx).2.2.2.2.2)
  have sE : sb_moved [some (.p (tD t)), some (.p (.int (i : Nat))), none, none] dc = .ok (.rt (.p (tD (srt (mvL t i)))), [some (.p (tD t)), some (.p (.int (i : Nat))), some (.p (qD (t.getD i (1, 1)))), none], dc) := by
    refine seq_go (dc' := dc) (expr_go (v := .p .none) (by simp only [and_ok, and_exn, and_stuck, opt_some, bind_ap, thn_ap, ret_ap, sopt_ap, eP_ap, eVar_ap, eBin_ap, eUn_ap, eChain_ap, chK_t, chK_f, aNil_ap, aCons_ap, eCall_ap, tstV_ap, asB_b, tAnd_ap, tOr_ap, tNot_ap, eAnd_ap, eOr_ap, eNot_ap, eIf_ap, eApp_ap, eAppK_ap, argB_p1, argB_p2, argB_p3, argB_p4, argB_p5, argB_d1, argB_d2, argB_s2, argB_f2, eAll_ap, eComp_ap, itS_ap, itF_ap, frD, tgN_ap, tgT_ap, seq_ap, sNx_ap, sIf_ap, sRet_ap, rtK_some, sSet_ap, setK_some, sFor_ap, unp_ap, unK_2, unK_3, fnK_rt, fnK_nx, fnK_exn, fnM_ap, List.getElem?_cons_zero, List.getElem?_cons_succ, List.map_cons, List.map_nil, List.length_cons, List.length_nil, List.length_map, List.replicate, List.append_nil, List.cons_append, List.nil_append, Option.map_some, Option.map_none, Option.bind_some, Option.bind_none, if_true, if_false, ite_true, ite_false, Bool.false_eq_true, Bool.true_eq_false, reduceCtorEq, isi_t, len_t, len_l, vLe, vLt, vGt, vGe, vAdd, vSub, sq_t, sq_l, wipeR, Val.ice, Val.frz, datas, Bool.not_true, Bool.not_false, setAll, List.set_cons_zero, List.set_cons_succ, List.set_nil, Nat.reduceAdd, Nat.reduceSub, Nat.reduceLeDiff, decide_true, n1])) ?_
    refine seq_go (dc' := dc) (expr_go (v := .p .none) (by simp only [and_ok, and_exn, and_stuck, opt_some, bind_ap, thn_ap, ret_ap, sopt_ap, eP_ap, eVar_ap, eBin_ap, eUn_ap, eChain_ap, chK_t, chK_f, aNil_ap, aCons_ap, eCall_ap, tstV_ap, asB_b, tAnd_ap, tOr_ap, tNot_ap, eAnd_ap, eOr_ap, eNot_ap, eIf_ap, eApp_ap, eAppK_ap, argB_p1, argB_p2, argB_p3, argB_p4, argB_p5, argB_d1, argB_d2, argB_s2, argB_f2, eAll_ap, eComp_ap, itS_ap, itF_ap, frD, tgN_ap, tgT_ap, seq_ap, sNx_ap, sIf_ap, sRet_ap, rtK_some, sSet_ap, setK_some, sFor_ap, unp_ap, unK_2, unK_3, fnK_rt, fnK_nx, fnK_exn, fnM_ap, List.getElem?_cons_zero, List.getElem?_cons_succ, List.map_cons, List.map_nil, List.length_cons, List.length_nil, List.length_map, List.replicate, List.append_nil, List.cons_append, List.nil_append, Option.map_some, Option.map_none, Option.bind_some, Option.bind_none, if_true, if_false, ite_true, ite_false, Bool.false_eq_true, Bool.true_eq_false, reduceCtorEq, isi_t, len_t, len_l, vLe, vLt, vGt, vGe, vAdd, vSub, sq_t, sq_l, wipeR, Val.ice, Val.frz, datas, Bool.not_true, Bool.not_false, setAll, List.set_cons_zero, List.set_cons_succ, List.set_nil, Nat.reduceAdd, Nat.reduceSub, Nat.reduceLeDiff, decide_true, n2])) ?_
    refine seq_go (ρ' := [some (.p (tD t)), some (.p (.int (i : Nat))), some (.p (qD (t.getD i (1, 1)))), none]) (dc' := dc) ((set_go (d := qD (t.getD i (1, 1))) (dc' := dc) ?_).trans rfl) (ret_go ?_)
    · simp only [eBin_ap, eVar_ap, List.getElem?_cons_zero, List.getElem?_cons_succ, and_ok, ix, opt_some]
    · rw [eCall_ap, aCons_ap, eApp_ap, aCons_ap, ec]
      simp only [and_ok, aNil_ap, argB_p1, eo, tup_l, opt_some]
  exact fn_go sE
theorem lmoved_eq (T : Tn t) {i : Nat} (hi : i < t.length) : fm__law_moved [.p (tD t), .p (.int (i : Nat))] dc = .ok (.p (tD (srt (mvL t i))), dc) := by
  have hl := T.le
  have ix := ix_tone hi
  obtain ⟨q1, q2, q3⟩ := tone_el T i
  have ec := compM (it := itS (eVar 0)) (tg := tgN 3) (vs := [3]) (elt := eApp 2 fm__law_folded (aCons (eBin vMul (eBin vIx (eVar 3) (eP (.int 0))) (eBin vIx (eVar 2) (eP (.int 1)))) (aCons (eBin vMul (eBin vIx (eVar 3) (eP (.int 1))) (eBin vIx (eVar 2) (eP (.int 0)))) aNil))) (g := qD) (l := t) (f := fun p => qD (mv1 (t.getD i (1, 1)) p)) (ρ := [some (.p (tD t)), some (.p (.int (i : Nat))), some (.p (qD (t.getD i (1, 1)))), none]) (dc := dc) rfl (by omega)
    (fun p hp => ⟨[some (.p (tD t)), some (.p (.int (i : Nat))), some (.p (qD (t.getD i (1, 1)))), some (.p (qD p))], rfl, by
      obtain ⟨p1, _, _, p2, p3⟩ := T.el p hp
      obtain ⟨x0, y0, x1, y1, _, _⟩ := mv_facts T (i := i) hp
      have m1 := mul_N (by decide) (by decide) (bd9 p2) (bd9 q3) (by decide)
      have m2 := mul_N (by decide) (by decide) (bd9 p3) (bd9 q2) (by decide)
      have eo := lfold_eq (dc := dc) (k := 60) x0 y0 x1 y1 (by decide) (by decide)
      have eo' : fm__law_folded [.p (.int ((p.1 * (t.getD i (1, 1)).2 : Nat) : Int)), .p (.int ((p.2 * (t.getD i (1, 1)).1 : Nat) : Int))] dc = .ok (.p (qD (mv1 (t.getD i (1, 1)) p)), dc) := eo
      simp only [eBin_ap, eApp_ap, aCons_ap, aNil_ap, eVar_ap, eP_ap, List.getElem?_cons_zero, List.getElem?_cons_succ, and_ok, ix0_q, ix1_q, opt_some, m1, m2, argB_p2, eo']⟩)
  have em : t.map (fun p => qD (mv1 (t.getD i (1, 1)) p)) = (mvL t i).map qD := by unfold mvL; rw [List.map_map]; rfl
  rw [em] at ec
  have eo := lsorted_eq (dc := dc) (l := mvL t i) (k := 62) (by unfold mvL; rw [List.length_map]; omega) (fun p hp => by
    obtain ⟨x, hx, rfl⟩ := List.mem_map.mp hp
    exact (mv_facts T (i := i) hx).2.2.2.2.1) (by decide) (by decide) (fun p hp => by
    obtain ⟨x, hx, rfl⟩ := List.mem_map.mp hp
    exact (mv_facts T (i := i) hx).2.2.2.2.2)
  have sE : sb__law_moved [some (.p (tD t)), some (.p (.int (i : Nat))), none, none] dc = .ok (.rt (.p (tD (srt (mvL t i)))), [some (.p (tD t)), some (.p (.int (i : Nat))), some (.p (qD (t.getD i (1, 1)))), none], dc) := by
    refine seq_go (ρ' := [some (.p (tD t)), some (.p (.int (i : Nat))), some (.p (qD (t.getD i (1, 1)))), none]) (dc' := dc) ((set_go (d := qD (t.getD i (1, 1))) (dc' := dc) ?_).trans rfl) (ret_go ?_)
    · simp only [eBin_ap, eVar_ap, List.getElem?_cons_zero, List.getElem?_cons_succ, and_ok, ix, opt_some]
    · rw [eApp_ap, aCons_ap, ec]
      simp only [and_ok, aNil_ap, argB_p1, eo]
  exact fn_go sE
def smB (t u : List (Nat × Nat)) (i : Nat) : Bool := decide (srt (mvL t i) = u)
def headN (l : List Nat) : PyData := match l with
  | [] => .none
  | k :: _ => .int (k : Nat)
theorem eq_tD (t u : List (Nat × Nat)) : vEq (.p (tD t)) (.p (tD u)) = some (.p (.bool (decide (t = u)))) := by
  rw [vEq_sh (.tup (Sh.map Sh.qD)) (.tup (Sh.map Sh.qD)) (show 2 ≤ 64 by omega), eqv_tuple eqv_qD]
theorem same_mv_eq (T : Tn t) {u : List (Nat × Nat)} (U : Tn u) : fm_same_moved [.p (tD t), .p (tD u)] dc = .ok (.p (headN ((List.range t.length).filter (smB t u))), dc) := by
  have hl := T.le
  have n1 := need_tuning_t (n := "one") (is_tuning_ok (dc := dc) T)
  have n2 := need_tuning_t (n := "other") (is_tuning_ok (dc := dc) U)
  have L := forD_out (dc := dc) (tg := tgN 2) (g := fun i : Nat => PyData.int i) (l := List.range t.length) (body := sIf (tstV (eBin vEq (eApp 2 fm_moved (aCons (eVar 0) (aCons (eVar 2) aNil))) (eVar 1))) (sRet (eVar 2)) sNx)
    (I := fun d ρ => (∀ y ∈ d, smB t u y = false) ∧ ∃ x2, ρ = [some (.p (tD t)), some (.p (tD u)), x2]) (O := fun v => v = .p (headN ((List.range t.length).filter (smB t u)))) (fun d x r e ρ ⟨hd, x2, hρ⟩ => by
      subst hρ
      obtain ⟨_, h2, _⟩ := pre_nat (c := 0) e
      refine ⟨[some (.p (tD t)), some (.p (tD u)), some (.p (.int (x : Nat)))], rfl, ?_⟩
      have em := moved_eq (dc := dc) T h2
      have et : tstV (eBin vEq (eApp 2 fm_moved (aCons (eVar 0) (aCons (eVar 2) aNil))) (eVar 1)) [some (.p (tD t)), some (.p (tD u)), some (.p (.int (x : Nat)))] dc = .ok (smB t u x, dc) := by
        simp only [tstV_ap, eBin_ap, eApp_ap, aCons_ap, aNil_ap, eVar_ap, List.getElem?_cons_zero, List.getElem?_cons_succ, and_ok, argB_p2, em, eq_tD, opt_some, asB_b]
        rfl
      by_cases c : smB t u x = true
      · refine .inr ⟨[some (.p (tD t)), some (.p (tD u)), some (.p (.int (x : Nat)))], .p (.int (x : Nat)), ?_, ?_⟩
        · rw [sIf_ap, et, and_ok, c]
          rfl
        · rw [e, List.filter_append, List.filter_cons_of_pos c, List.filter_eq_nil_iff.mpr fun y hy => by rw [hd y hy]; simp]
          rfl
      · have c' : smB t u x = false := by simpa using c
        refine .inl ⟨[some (.p (tD t)), some (.p (tD u)), some (.p (.int (x : Nat)))], ?_, fun y hy => ?_, some (.p (.int (x : Nat))), rfl⟩
        · rw [sIf_ap, et, and_ok, c']
          rfl
        · rcases List.mem_append.mp hy with z | z
          · exact hd y z
          · rw [List.mem_singleton.mp z]; exact c') [some (.p (tD t)), some (.p (tD u)), none] ⟨(fun y hy => by cases hy), none, rfl⟩
  have eI : it1 (eCall vLen (aCons (eVar 0) aNil)) [some (.p (tD t)), some (.p (tD u)), none] dc = .ok ((List.range t.length).map (fun i : Nat => PyData.int i), dc) := it1_n (by simp only [and_ok, and_exn, and_stuck, opt_some, bind_ap, thn_ap, ret_ap, sopt_ap, eP_ap, eVar_ap, eBin_ap, eUn_ap, eChain_ap, chK_t, chK_f, aNil_ap, aCons_ap, eCall_ap, tstV_ap, asB_b, tAnd_ap, tOr_ap, tNot_ap, eAnd_ap, eOr_ap, eNot_ap, eIf_ap, eApp_ap, eAppK_ap, argB_p1, argB_p2, argB_p3, argB_p4, argB_p5, argB_d1, argB_d2, argB_s2, argB_f2, eAll_ap, eComp_ap, itS_ap, itF_ap, frD, tgN_ap, tgT_ap, seq_ap, sNx_ap, sIf_ap, sRet_ap, rtK_some, sSet_ap, setK_some, sFor_ap, unp_ap, unK_2, unK_3, fnK_rt, fnK_nx, fnK_exn, fnM_ap, List.getElem?_cons_zero, List.getElem?_cons_succ, List.map_cons, List.map_nil, List.length_cons, List.length_nil, List.length_map, List.replicate, List.append_nil, List.cons_append, List.nil_append, Option.map_some, Option.map_none, Option.bind_some, Option.bind_none, if_true, if_false, ite_true, ite_false, Bool.false_eq_true, Bool.true_eq_false, reduceCtorEq, isi_t, len_t, len_l, vLe, vLt, vGt, vGe, vAdd, vSub, sq_t, sq_l, wipeR, Val.ice, Val.frz, datas, Bool.not_true, Bool.not_false, setAll, List.set_cons_zero, List.set_cons_succ, List.set_nil, Nat.reduceAdd, Nat.reduceSub, Nat.reduceLeDiff, decide_true]) (by omega)
  rcases L with ⟨ρ', e, hall, _⟩ | ⟨ρ', v, e, hv⟩
  · have sE : sb_same_moved [some (.p (tD t)), some (.p (tD u)), none] dc = .ok (.rt (.p .none), ρ', dc) := by
      refine seq_go (dc' := dc) (expr_go (v := .p .none) (by simp only [and_ok, and_exn, and_stuck, opt_some, bind_ap, thn_ap, ret_ap, sopt_ap, eP_ap, eVar_ap, eBin_ap, eUn_ap, eChain_ap, chK_t, chK_f, aNil_ap, aCons_ap, eCall_ap, tstV_ap, asB_b, tAnd_ap, tOr_ap, tNot_ap, eAnd_ap, eOr_ap, eNot_ap, eIf_ap, eApp_ap, eAppK_ap, argB_p1, argB_p2, argB_p3, argB_p4, argB_p5, argB_d1, argB_d2, argB_s2, argB_f2, eAll_ap, eComp_ap, itS_ap, itF_ap, frD, tgN_ap, tgT_ap, seq_ap, sNx_ap, sIf_ap, sRet_ap, rtK_some, sSet_ap, setK_some, sFor_ap, unp_ap, unK_2, unK_3, fnK_rt, fnK_nx, fnK_exn, fnM_ap, List.getElem?_cons_zero, List.getElem?_cons_succ, List.map_cons, List.map_nil, List.length_cons, List.length_nil, List.length_map, List.replicate, List.append_nil, List.cons_append, List.nil_append, Option.map_some, Option.map_none, Option.bind_some, Option.bind_none, if_true, if_false, ite_true, ite_false, Bool.false_eq_true, Bool.true_eq_false, reduceCtorEq, isi_t, len_t, len_l, vLe, vLt, vGt, vGe, vAdd, vSub, sq_t, sq_l, wipeR, Val.ice, Val.frz, datas, Bool.not_true, Bool.not_false, setAll, List.set_cons_zero, List.set_cons_succ, List.set_nil, Nat.reduceAdd, Nat.reduceSub, Nat.reduceLeDiff, decide_true, n1])) ?_
      refine seq_go (dc' := dc) (expr_go (v := .p .none) (by simp only [and_ok, and_exn, and_stuck, opt_some, bind_ap, thn_ap, ret_ap, sopt_ap, eP_ap, eVar_ap, eBin_ap, eUn_ap, eChain_ap, chK_t, chK_f, aNil_ap, aCons_ap, eCall_ap, tstV_ap, asB_b, tAnd_ap, tOr_ap, tNot_ap, eAnd_ap, eOr_ap, eNot_ap, eIf_ap, eApp_ap, eAppK_ap, argB_p1, argB_p2, argB_p3, argB_p4, argB_p5, argB_d1, argB_d2, argB_s2, argB_f2, eAll_ap, eComp_ap, itS_ap, itF_ap, frD, tgN_ap, tgT_ap, seq_ap, sNx_ap, sIf_ap, sRet_ap, rtK_some, sSet_ap, setK_some, sFor_ap, unp_ap, unK_2, unK_3, fnK_rt, fnK_nx, fnK_exn, fnM_ap, List.getElem?_cons_zero, List.getElem?_cons_succ, List.map_cons, List.map_nil, List.length_cons, List.length_nil, List.length_map, List.replicate, List.append_nil, List.cons_append, List.nil_append, Option.map_some, Option.map_none, Option.bind_some, Option.bind_none, if_true, if_false, ite_true, ite_false, Bool.false_eq_true, Bool.true_eq_false, reduceCtorEq, isi_t, len_t, len_l, vLe, vLt, vGt, vGe, vAdd, vSub, sq_t, sq_l, wipeR, Val.ice, Val.frz, datas, Bool.not_true, Bool.not_false, setAll, List.set_cons_zero, List.set_cons_succ, List.set_nil, Nat.reduceAdd, Nat.reduceSub, Nat.reduceLeDiff, decide_true, n2])) ?_
      refine seq_go (ρ' := ρ') (dc' := dc) ?_ rfl
      rw [sFor_ap, eI, and_ok]
      exact e
    rw [List.filter_eq_nil_iff.mpr fun y hy => by rw [hall y hy]; simp]
    exact fn_go sE
  · have sE : sb_same_moved [some (.p (tD t)), some (.p (tD u)), none] dc = .ok (.rt v, ρ', dc) := by
      refine seq_go (dc' := dc) (expr_go (v := .p .none) (by simp only [and_ok, and_exn, and_stuck, opt_some, bind_ap, thn_ap, ret_ap, sopt_ap, eP_ap, eVar_ap, eBin_ap, eUn_ap, eChain_ap, chK_t, chK_f, aNil_ap, aCons_ap, eCall_ap, tstV_ap, asB_b, tAnd_ap, tOr_ap, tNot_ap, eAnd_ap, eOr_ap, eNot_ap, eIf_ap, eApp_ap, eAppK_ap, argB_p1, argB_p2, argB_p3, argB_p4, argB_p5, argB_d1, argB_d2, argB_s2, argB_f2, eAll_ap, eComp_ap, itS_ap, itF_ap, frD, tgN_ap, tgT_ap, seq_ap, sNx_ap, sIf_ap, sRet_ap, rtK_some, sSet_ap, setK_some, sFor_ap, unp_ap, unK_2, unK_3, fnK_rt, fnK_nx, fnK_exn, fnM_ap, List.getElem?_cons_zero, List.getElem?_cons_succ, List.map_cons, List.map_nil, List.length_cons, List.length_nil, List.length_map, List.replicate, List.append_nil, List.cons_append, List.nil_append, Option.map_some, Option.map_none, Option.bind_some, Option.bind_none, if_true, if_false, ite_true, ite_false, Bool.false_eq_true, Bool.true_eq_false, reduceCtorEq, isi_t, len_t, len_l, vLe, vLt, vGt, vGe, vAdd, vSub, sq_t, sq_l, wipeR, Val.ice, Val.frz, datas, Bool.not_true, Bool.not_false, setAll, List.set_cons_zero, List.set_cons_succ, List.set_nil, Nat.reduceAdd, Nat.reduceSub, Nat.reduceLeDiff, decide_true, n1])) ?_
      refine seq_go (dc' := dc) (expr_go (v := .p .none) (by simp only [and_ok, and_exn, and_stuck, opt_some, bind_ap, thn_ap, ret_ap, sopt_ap, eP_ap, eVar_ap, eBin_ap, eUn_ap, eChain_ap, chK_t, chK_f, aNil_ap, aCons_ap, eCall_ap, tstV_ap, asB_b, tAnd_ap, tOr_ap, tNot_ap, eAnd_ap, eOr_ap, eNot_ap, eIf_ap, eApp_ap, eAppK_ap, argB_p1, argB_p2, argB_p3, argB_p4, argB_p5, argB_d1, argB_d2, argB_s2, argB_f2, eAll_ap, eComp_ap, itS_ap, itF_ap, frD, tgN_ap, tgT_ap, seq_ap, sNx_ap, sIf_ap, sRet_ap, rtK_some, sSet_ap, setK_some, sFor_ap, unp_ap, unK_2, unK_3, fnK_rt, fnK_nx, fnK_exn, fnM_ap, List.getElem?_cons_zero, List.getElem?_cons_succ, List.map_cons, List.map_nil, List.length_cons, List.length_nil, List.length_map, List.replicate, List.append_nil, List.cons_append, List.nil_append, Option.map_some, Option.map_none, Option.bind_some, Option.bind_none, if_true, if_false, ite_true, ite_false, Bool.false_eq_true, Bool.true_eq_false, reduceCtorEq, isi_t, len_t, len_l, vLe, vLt, vGt, vGe, vAdd, vSub, sq_t, sq_l, wipeR, Val.ice, Val.frz, datas, Bool.not_true, Bool.not_false, setAll, List.set_cons_zero, List.set_cons_succ, List.set_nil, Nat.reduceAdd, Nat.reduceSub, Nat.reduceLeDiff, decide_true, n2])) ?_
      rw [seq_ap, sFor_ap, eI, and_ok]
      rw [e]
      rfl
    rw [← hv]
    exact fn_go sE
end

end K02

set_option maxHeartbeats 4000000
namespace K02
open PySem PySem.Spec PyProof.Rows L2 DL
/-! ### fifths -/
section
variable {dc : Dc}
def fif (k : Int) : Nat × Nat := octF (3 ^ k.toNat) (3 ^ (-k).toNat)
def fiL (first many : Nat) : List (Nat × Nat) := (List.range many).map fun i : Nat => fif ((i : Int) - (first : Int))
theorem pow3_pos (n : Nat) : 0 < 3 ^ n := Nat.pow_pos (by decide)
theorem pow3_le {n : Nat} (h : n ≤ 11) : 3 ^ n ≤ 177147 := Nat.le_trans (Nat.pow_le_pow_right (by decide) h) (by decide)
theorem three_B : Bd 2 3 := by unfold Bd; decide
theorem fif_facts {k : Int} (h0 : -11 ≤ k) (h1 : k ≤ 11) : Red (fif k) ∧ (fif k).2 ≤ (fif k).1 ∧ (fif k).1 < 2 * (fif k).2 ∧ (fif k).1 ≤ 1000000000 ∧ (fif k).2 ≤ 1000000000 := by
  obtain ⟨a, b, c⟩ := oct_red (pow3_pos k.toNat) (pow3_pos (-k).toNat)
  have p1 := pow3_le (show k.toNat ≤ 11 by omega)
  have p2 := pow3_le (show (-k).toNat ≤ 11 by omega)
  obtain ⟨d, e⟩ := oct_le (M := 1000000000) (pow3_pos k.toNat) (pow3_pos (-k).toNat) (by omega) (by omega)
  exact ⟨a, b, c, d, e⟩
theorem fif_0 : fif 0 = (1, 1) := oct_one (by decide)
theorem fif_mv (k l : Int) : mv1 (fif l) (fif k) = fif (k - l) := by
  obtain ⟨i, j, e1⟩ := oct_rep (pow3_pos k.toNat) (pow3_pos (-k).toNat)
  obtain ⟨i', j', e2⟩ := oct_rep (pow3_pos l.toNat) (pow3_pos (-l).toNat)
  obtain ⟨a, _, _⟩ := oct_red (pow3_pos k.toNat) (pow3_pos (-k).toNat)
  obtain ⟨b, _, _⟩ := oct_red (pow3_pos l.toNat) (pow3_pos (-l).toNat)
  have e3 : 3 ^ (k - l).toNat * 3 ^ (-k).toNat * 3 ^ l.toNat = 3 ^ (-(k - l)).toNat * 3 ^ k.toNat * 3 ^ (-l).toNat := by
    rw [← Nat.pow_add, ← Nat.pow_add, ← Nat.pow_add, ← Nat.pow_add]
    congr 1
    omega
  change (fif k).1 * 3 ^ (-k).toNat * 2 ^ j = (fif k).2 * 3 ^ k.toNat * 2 ^ i at e1
  change (fif l).1 * 3 ^ (-l).toNat * 2 ^ j' = (fif l).2 * 3 ^ l.toNat * 2 ^ i' at e2
  change Red (fif k) at a
  change Red (fif l) at b
  have hN := pow3_pos (k - l).toNat
  have hD := pow3_pos (-(k - l)).toNat
  have hnk := pow3_pos k.toNat
  have hdl := pow3_pos (-l).toNat
  show octF ((fif k).1 * (fif l).2) ((fif k).2 * (fif l).1) = octF (3 ^ (k - l).toNat) (3 ^ (-(k - l)).toNat)
  refine oct_eq (p := j + i') (q := i + j') (Nat.mul_pos a.1 b.2.1) (Nat.mul_pos a.2.1 b.1) hN hD ?_
  generalize 3 ^ (k - l).toNat = N at *
  generalize 3 ^ (-(k - l)).toNat = D at *
  generalize 3 ^ k.toNat = nk at *
  generalize 3 ^ (-k).toNat = dk at *
  generalize 3 ^ l.toNat = nl at *
  generalize 3 ^ (-l).toNat = dl at *
  generalize (fif k).1 = p1 at *
  generalize (fif k).2 = p2 at *
  generalize (fif l).1 = q1 at *
  generalize (fif l).2 = q2 at *
  rw [Nat.pow_add, Nat.pow_add]
  generalize 2 ^ i = wi at *
  generalize 2 ^ j = wj at *
  generalize 2 ^ i' = wi' at *
  generalize 2 ^ j' = wj' at *
  refine Nat.eq_of_mul_eq_mul_right (Nat.mul_pos hnk hdl) ?_
  calc p1 * q2 * D * (wj * wi') * (nk * dl) = (D * nk * dl) * (p1 * wj) * (q2 * wi') := by ac_rfl
    _ = (N * dk * nl) * (p1 * wj) * (q2 * wi') := by rw [e3]
    _ = N * (p1 * dk * wj) * (q2 * nl * wi') := by ac_rfl
    _ = N * (p2 * nk * wi) * (q1 * dl * wj') := by rw [e1, e2]
    _ = N * (p2 * q1) * (wi * wj') * (nk * dl) := by ac_rfl
theorem by_fifths_eq {first many : Nat} (h1 : first ≤ 11) (h2 : 1 ≤ many) (h3 : many ≤ 12) : fm_by_fifths [.p (.int (first : Nat)), .p (.int (many : Nat))] dc = .ok (.p (tD (srt (fiL first many))), dc) := by
  have n1 := need_int_t (dc := dc) (s := "first") (i := (first : Int)) (lo := 0) (hi := 11) (by omega) (by omega)
  have n2 := need_int_t (dc := dc) (s := "many") (i := (many : Int)) (lo := 1) (hi := 12) (by omega) (by omega)
  have L := forD_pre (dc := dc) (tg := tgN 3) (g := fun i : Nat => PyData.int i) (l := List.range many) (body := sSeq (sSet 4 (eBin vSub (eVar 3) (eVar 0)))
    (sMutL 2 mAppend (aCons (eApp 1 fm_in_octave (aCons (eIf (tstV (eBin vGt (eVar 4) (eP (.int 0)))) (eTup (aCons (eApp 2 fm_power (aCons (eP (.int 3)) (aCons (eVar 4) aNil))) (aCons (eP (.int 1)) aNil))) (eTup (aCons (eP (.int 1)) (aCons (eApp 2 fm_power (aCons (eP (.int 3)) (aCons (eBin vSub (eP (.int 0)) (eVar 4)) aNil))) aNil)))) aNil)) aNil)))
    (I := fun d ρ => ∃ x3 x4, ρ = [some (.p (.int (first : Nat))), some (.p (.int (many : Nat))), some (.ol ((d.map fun i : Nat => fif ((i : Int) - (first : Int))).map qD)), x3, x4]) (fun d x r e ρ ⟨x3, x4, hρ⟩ => by
      subst hρ
      obtain ⟨_, hx, _⟩ := pre_nat (c := 0) e
      have hd : d.length ≤ 12 := by
        have := congrArg List.length e
        rw [List.length_range, List.length_append] at this
        omega
      obtain ⟨kk, hkk⟩ : ∃ kk : Int, kk = (x : Int) - (first : Int) := ⟨_, rfl⟩
      have q1 := pow3_le (show kk.toNat ≤ 11 by omega)
      have q2 := pow3_le (show (-kk).toNat ≤ 11 by omega)
      have eo := in_octave_eq (dc := dc) (k := 30) (pow3_pos kk.toNat) (pow3_pos (-kk).toNat) (bd9 (by omega)) (bd9 (by omega)) (by decide) (by decide)
      have eo' : fm_in_octave [.p (qD (3 ^ kk.toNat, 3 ^ (-kk).toNat))] dc = .ok (.p (qD (fif kk)), dc) := eo
      have ei : eIf (tstV (eBin vGt (eVar 4) (eP (.int 0)))) (eTup (aCons (eApp 2 fm_power (aCons (eP (.int 3)) (aCons (eVar 4) aNil))) (aCons (eP (.int 1)) aNil))) (eTup (aCons (eP (.int 1)) (aCons (eApp 2 fm_power (aCons (eP (.int 3)) (aCons (eBin vSub (eP (.int 0)) (eVar 4)) aNil))) aNil))) [some (.p (.int (first : Nat))), some (.p (.int (many : Nat))), some (.ol ((d.map fun i : Nat => fif ((i : Int) - (first : Int))).map qD)), some (.p (.int (x : Nat))), some (.p (.int kk))] dc = .ok (.p (qD (3 ^ kk.toNat, 3 ^ (-kk).toNat)), dc) := by
        by_cases c : 0 < kk
        · have ec : tstV (eBin vGt (eVar 4) (eP (.int 0))) [some (.p (.int (first : Nat))), some (.p (.int (many : Nat))), some (.ol ((d.map fun i : Nat => fif ((i : Int) - (first : Int))).map qD)), some (.p (.int (x : Nat))), some (.p (.int kk))] dc = .ok (true, dc) := by
            show Res.ok (decide (0 < kk), dc) = _
            rw [decide_eq_true c]
          have ep := power_eq (dc := dc) (a := 3) (n := kk.toNat) (by decide) (by decide) three_B (by omega)
          have ek : ((kk.toNat : Nat) : Int) = kk := by omega
          rw [ek] at ep
          have ep' : fm_power [.p (.int 3), .p (.int kk)] dc = .ok (.p (.int ((3 ^ kk.toNat : Nat) : Int)), dc) := ep
          have ez : (-kk).toNat = 0 := by omega
          rw [eIf_ap, ec, and_ok]
          simp only [if_true, eTup, eCall_ap, eApp_ap, aCons_ap, aNil_ap, eVar_ap, eP_ap, List.getElem?_cons_zero, List.getElem?_cons_succ, and_ok, argB_p2, ep', ez]
          rfl
        · have ec : tstV (eBin vGt (eVar 4) (eP (.int 0))) [some (.p (.int (first : Nat))), some (.p (.int (many : Nat))), some (.ol ((d.map fun i : Nat => fif ((i : Int) - (first : Int))).map qD)), some (.p (.int (x : Nat))), some (.p (.int kk))] dc = .ok (false, dc) := by
            show Res.ok (decide (0 < kk), dc) = _
            rw [decide_eq_false c]
          have ep := power_eq (dc := dc) (a := 3) (n := (-kk).toNat) (by decide) (by decide) three_B (by omega)
          have ek : (((-kk).toNat : Nat) : Int) = 0 - kk := by omega
          rw [ek] at ep
          have ep' : fm_power [.p (.int 3), .p (.int (0 - kk))] dc = .ok (.p (.int ((3 ^ (-kk).toNat : Nat) : Int)), dc) := ep
          have es : vSub (.p (.int 0)) (.p (.int kk)) = some (.p (.int (0 - kk))) := rfl
          have ez : kk.toNat = 0 := by omega
          rw [eIf_ap, ec, and_ok]
          simp only [Bool.false_eq_true, if_false, eTup, eCall_ap, eApp_ap, aCons_ap, aNil_ap, eBin_ap, eVar_ap, eP_ap, List.getElem?_cons_zero, List.getElem?_cons_succ, and_ok, es, opt_some, argB_p2, ep', ez]
          rfl
      refine ⟨[some (.p (.int (first : Nat))), some (.p (.int (many : Nat))), some (.ol ((d.map fun i : Nat => fif ((i : Int) - (first : Int))).map qD)), some (.p (.int (x : Nat))), x4], [some (.p (.int (first : Nat))), some (.p (.int (many : Nat))), some (.ol ((d.map fun i : Nat => fif ((i : Int) - (first : Int))).map qD ++ [qD (fif kk)])), some (.p (.int (x : Nat))), some (.p (.int kk))], rfl, ?_, some (.p (.int (x : Nat))), some (.p (.int kk)), ?_⟩
      · refine seq_go (ρ' := [some (.p (.int (first : Nat))), some (.p (.int (many : Nat))), some (.ol ((d.map fun i : Nat => fif ((i : Int) - (first : Int))).map qD)), some (.p (.int (x : Nat))), some (.p (.int kk))]) (dc' := dc) ((set_go (d := .int kk) (dc' := dc) ?_).trans rfl) ?_
        · rw [hkk]
          rfl
        · refine (app_ok (d := qD (fif kk)) rfl ?_ (by rw [List.length_map, List.length_map]; omega)).trans rfl
          rw [aCons_ap, eApp_ap, aCons_ap, ei]
          simp only [and_ok, aNil_ap, argB_p1, eo']
      · rw [List.map_append, List.map_append, hkk]
        rfl) [some (.p (.int (first : Nat))), some (.p (.int (many : Nat))), some (.ol []), none, none] ⟨none, none, rfl⟩
  obtain ⟨ρ', e, x3, x4, rfl⟩ := L
  have eI : it1 (eVar 1) [some (.p (.int (first : Nat))), some (.p (.int (many : Nat))), some (.ol []), none, none] dc = .ok ((List.range many).map (fun i : Nat => PyData.int i), dc) := it1_n rfl (by omega)
  have hfi : ∀ p ∈ fiL first many, Red p ∧ Bp 30 p := fun p hp => by
    obtain ⟨i, hi, rfl⟩ := List.mem_map.mp hp
    have := List.mem_range.mp hi
    obtain ⟨f1, _, _, f4, f5⟩ := fif_facts (k := (i : Int) - (first : Int)) (by omega) (by omega)
    exact ⟨f1, bd9 f4, bd9 f5⟩
  have eo := in_order_eq (dc := dc) (v := .list ((fiL first many).map qD)) (l := fiL first many) (k := 30) rfl (by unfold fiL; rw [List.length_map, List.length_range]; omega) (fun p hp => (hfi p hp).1) (by decide) (by decide) (fun p hp => (hfi p hp).2)
  have sE : sb_by_fifths [some (.p (.int (first : Nat))), some (.p (.int (many : Nat))), none, none, none] dc = .ok (.rt (.p (tD (srt (fiL first many)))), [some (.p (.int (first : Nat))), some (.p (.int (many : Nat))), some (.p (.list ((fiL first many).map qD))), x3, x4], dc) := by
    refine seq_go (dc' := dc) (expr_go (v := .p .none) (by simp only [and_ok, and_exn, and_stuck, opt_some, bind_ap, thn_ap, ret_ap, sopt_ap, eP_ap, eVar_ap, eBin_ap, eUn_ap, eChain_ap, chK_t, chK_f, aNil_ap, aCons_ap, eCall_ap, tstV_ap, asB_b, tAnd_ap, tOr_ap, tNot_ap, eAnd_ap, eOr_ap, eNot_ap, eIf_ap, eApp_ap, eAppK_ap, argB_p1, argB_p2, argB_p3, argB_p4, argB_p5, argB_d1, argB_d2, argB_s2, argB_f2, eAll_ap, eComp_ap, itS_ap, itF_ap, frD, tgN_ap, tgT_ap, seq_ap, sNx_ap, sIf_ap, sRet_ap, rtK_some, sSet_ap, setK_some, sFor_ap, unp_ap, unK_2, unK_3, fnK_rt, fnK_nx, fnK_exn, fnM_ap, List.getElem?_cons_zero, List.getElem?_cons_succ, List.map_cons, List.map_nil, List.length_cons, List.length_nil, List.length_map, List.replicate, List.append_nil, List.cons_append, List.nil_append, Option.map_some, Option.map_none, Option.bind_some, Option.bind_none, if_true, if_false, ite_true, ite_false, Bool.false_eq_true, Bool.true_eq_false, reduceCtorEq, isi_t, len_t, len_l, vLe, vLt, vGt, vGe, vAdd, vSub, sq_t, sq_l, wipeR, Val.ice, Val.frz, datas, Bool.not_true, Bool.not_false, setAll, List.set_cons_zero, List.set_cons_succ, List.set_nil, Nat.reduceAdd, Nat.reduceSub, Nat.reduceLeDiff, decide_true, n1])) ?_
    refine seq_go (dc' := dc) (expr_go (v := .p .none) (by simp only [and_ok, and_exn, and_stuck, opt_some, bind_ap, thn_ap, ret_ap, sopt_ap, eP_ap, eVar_ap, eBin_ap, eUn_ap, eChain_ap, chK_t, chK_f, aNil_ap, aCons_ap, eCall_ap, tstV_ap, asB_b, tAnd_ap, tOr_ap, tNot_ap, eAnd_ap, eOr_ap, eNot_ap, eIf_ap, eApp_ap, eAppK_ap, argB_p1, argB_p2, argB_p3, argB_p4, argB_p5, argB_d1, argB_d2, argB_s2, argB_f2, eAll_ap, eComp_ap, itS_ap, itF_ap, frD, tgN_ap, tgT_ap, seq_ap, sNx_ap, sIf_ap, sRet_ap, rtK_some, sSet_ap, setK_some, sFor_ap, unp_ap, unK_2, unK_3, fnK_rt, fnK_nx, fnK_exn, fnM_ap, List.getElem?_cons_zero, List.getElem?_cons_succ, List.map_cons, List.map_nil, List.length_cons, List.length_nil, List.length_map, List.replicate, List.append_nil, List.cons_append, List.nil_append, Option.map_some, Option.map_none, Option.bind_some, Option.bind_none, if_true, if_false, ite_true, ite_false, Bool.false_eq_true, Bool.true_eq_false, reduceCtorEq, isi_t, len_t, len_l, vLe, vLt, vGt, vGe, vAdd, vSub, sq_t, sq_l, wipeR, Val.ice, Val.frz, datas, Bool.not_true, Bool.not_false, setAll, List.set_cons_zero, List.set_cons_succ, List.set_nil, Nat.reduceAdd, Nat.reduceSub, Nat.reduceLeDiff, decide_true, n2])) ?_
    refine seq_go (ρ' := [some (.p (.int (first : Nat))), some (.p (.int (many : Nat))), some (.ol []), none, none]) (dc' := dc) rfl ?_
    refine seq_go (ρ' := [some (.p (.int (first : Nat))), some (.p (.int (many : Nat))), some (.ol ((fiL first many).map qD)), x3, x4]) (dc' := dc) ?_ ?_
    · rw [sFor_ap, eI, and_ok]
      exact e
    · show sRet _ [some (.p (.int (first : Nat))), some (.p (.int (many : Nat))), some (.p (.list ((fiL first many).map qD))), x3, x4] dc = _
      refine ret_go ?_
      simp only [eCall_ap, eApp_ap, aCons_ap, aNil_ap, eVar_ap, List.getElem?_cons_zero, List.getElem?_cons_succ, and_ok, argB_p1, eo, tup_l, opt_some]
  exact fn_go sE
theorem lfifths_eq {first many : Nat} (h1 : first ≤ 11) (h3 : many ≤ 12) : fm__law_fifths [.p (.int (first : Nat)), .p (.int (many : Nat))] dc = .ok (.p (tD (srt (fiL first many))), dc) := by
  have L := forD_pre (dc := dc) (tg := tgN 3) (g := fun i : Nat => PyData.int (-(first : Int) + (i : Int))) (l := List.range many) (body := sSeq (sPar 4 5 (aCons (eCall vMax2 (aCons (eP (.int 0)) (aCons (eVar 3) aNil))) (aCons (eCall vMax2 (aCons (eP (.int 0)) (aCons (eBin vSub (eP (.int 0)) (eVar 3)) aNil))) aNil)))
    (sMutL 2 mAppend (aCons (eApp 2 fm__law_folded (aCons (eBin vMul (eApp 2 fm__law_power (aCons (eP (.int 3)) (aCons (eVar 4) aNil))) (eApp 2 fm__law_power (aCons (eP (.int 2)) (aCons (eVar 5) aNil)))) (aCons (eBin vMul (eApp 2 fm__law_power (aCons (eP (.int 2)) (aCons (eVar 4) aNil))) (eApp 2 fm__law_power (aCons (eP (.int 3)) (aCons (eVar 5) aNil)))) aNil))) aNil)))
    (I := fun d ρ => ∃ x3 x4 x5, ρ = [some (.p (.int (first : Nat))), some (.p (.int (many : Nat))), some (.ol ((d.map fun i : Nat => fif ((i : Int) - (first : Int))).map qD)), x3, x4, x5]) (fun d x r e ρ ⟨x3, x4, x5, hρ⟩ => by
      subst hρ
      obtain ⟨_, hx, _⟩ := pre_nat (c := 0) e
      have hd : d.length ≤ 12 := by
        have := congrArg List.length e
        rw [List.length_range, List.length_append] at this
        omega
      obtain ⟨kk, hkk⟩ : ∃ kk : Int, kk = (x : Int) - (first : Int) := ⟨_, rfl⟩
      have hk2 : -(first : Int) + (x : Int) = kk := by omega
      have q1 := pow3_le (show kk.toNat ≤ 11 by omega)
      have q2 := pow3_le (show (-kk).toNat ≤ 11 by omega)
      have mx1 : vMax2 [.p (.int 0), .p (.int kk)] = some (.p (.int (kk.toNat : Nat))) := by
        show some (Val.p (.int (if kk > 0 then kk else 0))) = _
        congr 3
        split <;> omega
      have mx2 : vMax2 [.p (.int 0), .p (.int (0 - kk))] = some (.p (.int ((-kk).toNat : Nat))) := by
        show some (Val.p (.int (if 0 - kk > 0 then 0 - kk else 0))) = _
        congr 3
        split <;> omega
      have es : vSub (.p (.int 0)) (.p (.int kk)) = some (.p (.int (0 - kk))) := rfl
      have p3u : fm__law_power [.p (.int 3), .p (.int (kk.toNat : Nat))] dc = .ok (.p (.int ((3 ^ kk.toNat : Nat) : Int)), dc) := lpower_eq (a := 3) (n := kk.toNat) (by decide) (by decide) three_B (by omega)
      have p3d : fm__law_power [.p (.int 3), .p (.int ((-kk).toNat : Nat))] dc = .ok (.p (.int ((3 ^ (-kk).toNat : Nat) : Int)), dc) := lpower_eq (a := 3) (n := (-kk).toNat) (by decide) (by decide) three_B (by omega)
      have p2u : fm__law_power [.p (.int 2), .p (.int (kk.toNat : Nat))] dc = .ok (.p (.int ((2 ^ kk.toNat : Nat) : Int)), dc) := lpower_eq (a := 2) (n := kk.toNat) (by decide) (by decide) two_B (by omega)
      have p2d : fm__law_power [.p (.int 2), .p (.int ((-kk).toNat : Nat))] dc = .ok (.p (.int ((2 ^ (-kk).toNat : Nat) : Int)), dc) := lpower_eq (a := 2) (n := (-kk).toNat) (by decide) (by decide) two_B (by omega)
      have B3u : Bd 30 (3 ^ kk.toNat) := bd9 (by omega)
      have B3d : Bd 30 (3 ^ (-kk).toNat) := bd9 (by omega)
      have B2u : Bd 12 (2 ^ kk.toNat) := by unfold Bd; exact Nat.pow_lt_pow_right (by omega) (by omega)
      have B2d : Bd 12 (2 ^ (-kk).toNat) := by unfold Bd; exact Nat.pow_lt_pow_right (by omega) (by omega)
      have m1 := mul_N (by decide) (by decide) B3u B2d (by decide)
      have m2 := mul_N (by decide) (by decide) B2u B3d (by decide)
      have a0 : 0 < 3 ^ kk.toNat * 2 ^ (-kk).toNat := Nat.mul_pos (pow3_pos _) (pow_pos2 _)
      have b0 : 0 < 2 ^ kk.toNat * 3 ^ (-kk).toNat := Nat.mul_pos (pow_pos2 _) (pow3_pos _)
      have eo := lfold_eq (dc := dc) (k := 42) a0 b0 (B3u.mul B2d) (B2u.mul B3d) (by decide) (by decide)
      have ef : octF (3 ^ kk.toNat * 2 ^ (-kk).toNat) (2 ^ kk.toNat * 3 ^ (-kk).toNat) = fif kk := by
        refine oct_eq (p := kk.toNat) (q := (-kk).toNat) a0 b0 (pow3_pos _) (pow3_pos _) ?_
        ac_rfl
      rw [ef] at eo
      refine ⟨[some (.p (.int (first : Nat))), some (.p (.int (many : Nat))), some (.ol ((d.map fun i : Nat => fif ((i : Int) - (first : Int))).map qD)), some (.p (.int kk)), x4, x5], [some (.p (.int (first : Nat))), some (.p (.int (many : Nat))), some (.ol ((d.map fun i : Nat => fif ((i : Int) - (first : Int))).map qD ++ [qD (fif kk)])), some (.p (.int kk)), some (.p (.int (kk.toNat : Nat))), some (.p (.int ((-kk).toNat : Nat)))], ?_, ?_, some (.p (.int kk)), some (.p (.int (kk.toNat : Nat))), some (.p (.int ((-kk).toNat : Nat))), ?_⟩
      · rw [hk2]
        rfl
      · refine seq_go (ρ' := [some (.p (.int (first : Nat))), some (.p (.int (many : Nat))), some (.ol ((d.map fun i : Nat => fif ((i : Int) - (first : Int))).map qD)), some (.p (.int kk)), some (.p (.int (kk.toNat : Nat))), some (.p (.int ((-kk).toNat : Nat)))]) (dc' := dc) ((spar_ok (a := .int (kk.toNat : Nat)) (b := .int ((-kk).toNat : Nat)) (dc' := dc) ?_).trans rfl) ?_
        · simp only [aCons_ap, aNil_ap, eCall_ap, eBin_ap, eVar_ap, eP_ap, List.getElem?_cons_zero, List.getElem?_cons_succ, and_ok, mx1, es, opt_some, mx2]
        · refine (app_ok (d := qD (fif kk)) rfl ?_ (by rw [List.length_map, List.length_map]; omega)).trans rfl
          simp only [eApp_ap, aCons_ap, aNil_ap, eBin_ap, eVar_ap, eP_ap, List.getElem?_cons_zero, List.getElem?_cons_succ, and_ok, argB_p2, p3u, p3d, p2u, p2d, m1, m2, opt_some, eo]
      · rw [List.map_append, List.map_append, hkk]
        rfl) [some (.p (.int (first : Nat))), some (.p (.int (many : Nat))), some (.ol []), none, none, none] ⟨none, none, none, rfl⟩
  obtain ⟨ρ', e, x3, x4, x5, rfl⟩ := L
  have eI : it2 (eBin vSub (eP (.int 0)) (eVar 0)) (eBin vSub (eVar 1) (eVar 0)) [some (.p (.int (first : Nat))), some (.p (.int (many : Nat))), some (.ol []), none, none, none] dc = .ok ((List.range many).map (fun i : Nat => PyData.int (-(first : Int) + (i : Int))), dc) := by
    have e1 : eBin vSub (eP (.int 0)) (eVar 0) [some (.p (.int (first : Nat))), some (.p (.int (many : Nat))), some (.ol []), none, none, none] dc = .ok (.p (.int (-(first : Int))), dc) := by
      show Res.ok (Val.p (.int (0 - (first : Int))), dc) = _
      rw [Int.zero_sub]
    have e2 : eBin vSub (eVar 1) (eVar 0) [some (.p (.int (first : Nat))), some (.p (.int (many : Nat))), some (.ol []), none, none, none] dc = .ok (.p (.int ((many : Int) - (first : Int))), dc) := rfl
    unfold it2
    rw [bind_ap, e1, and_ok, bind_ap, e2, and_ok]
    show (if -100000 ≤ -(first : Int) ∧ -(first : Int) ≤ 100000 ∧ -100000 ≤ (many : Int) - (first : Int) ∧ (many : Int) - (first : Int) ≤ 100000 then SM.ret (rg2D (-(first : Int)) ((many : Int) - (first : Int))) else fun _ _ => .stuck) _ dc = _
    rw [if_pos (by omega)]
    have e3 : rg2D (-(first : Int)) ((many : Int) - (first : Int)) = (List.range many).map (fun i : Nat => PyData.int (-(first : Int) + (i : Int))) := by
      unfold rg2D
      have : (((many : Int) - (first : Int)) - (-(first : Int))).toNat = many := by omega
      rw [this]
    rw [e3]
    rfl
  have hfi : ∀ p ∈ fiL first many, Red p ∧ Bp 30 p := fun p hp => by
    obtain ⟨i, hi, rfl⟩ := List.mem_map.mp hp
    have := List.mem_range.mp hi
    obtain ⟨f1, _, _, f4, f5⟩ := fif_facts (k := (i : Int) - (first : Int)) (by omega) (by omega)
    exact ⟨f1, bd9 f4, bd9 f5⟩
  have eo := lsorted_eq (dc := dc) (l := fiL first many) (k := 30) (by unfold fiL; rw [List.length_map, List.length_range]; omega) (fun p hp => (hfi p hp).1) (by decide) (by decide) (fun p hp => (hfi p hp).2)
  have sE : sb__law_fifths [some (.p (.int (first : Nat))), some (.p (.int (many : Nat))), none, none, none, none] dc = .ok (.rt (.p (tD (srt (fiL first many)))), [some (.p (.int (first : Nat))), some (.p (.int (many : Nat))), some (.p (.list ((fiL first many).map qD))), x3, x4, x5], dc) := by
    refine seq_go (ρ' := [some (.p (.int (first : Nat))), some (.p (.int (many : Nat))), some (.ol []), none, none, none]) (dc' := dc) rfl ?_
    refine seq_go (ρ' := [some (.p (.int (first : Nat))), some (.p (.int (many : Nat))), some (.ol ((fiL first many).map qD)), x3, x4, x5]) (dc' := dc) ?_ ?_
    · rw [sFor_ap, eI, and_ok]
      exact e
    · show sRet _ [some (.p (.int (first : Nat))), some (.p (.int (many : Nat))), some (.p (.list ((fiL first many).map qD))), x3, x4, x5] dc = _
      refine ret_go ?_
      simp only [eApp_ap, aCons_ap, aNil_ap, eVar_ap, List.getElem?_cons_zero, List.getElem?_cons_succ, and_ok, argB_p1, eo]
  exact fn_go sE
end

end K02

set_option maxHeartbeats 4000000
namespace K02
open PySem PySem.Spec PyProof.Rows L2 DL
/-! ### drawn tunings -/
section
variable {dc : Dc} {t : List (Nat × Nat)} {k : Nat}
def ElT (p : Nat × Nat) : Prop := Red p ∧ p.2 ≤ p.1 ∧ p.1 < 2 * p.2 ∧ p.1 ≤ 1000000000 ∧ p.2 ≤ 1000000000
theorem srt_tn {l : List (Nat × Nat)} (h1 : (1, 1) ∈ l) (hl : l.length ≤ 12) (h : ∀ p ∈ l, ElT p) : Tn (srt l) := by
  obtain ⟨u, m⟩ := srt_facts fun p hp => (h p hp).1
  have hsl := srt_len l
  refine ⟨?_, by omega, u, fun p hp => h p ((m p).mp hp)⟩
  have h1' := (m (1, 1)).mpr h1
  cases e : srt l with
  | nil => rw [e] at h1'; cases h1'
  | cons x r =>
    rw [e] at h1' u
    have hx := h x ((m x).mp (by rw [e]; exact List.mem_cons_self))
    rcases List.mem_cons.mp h1' with z | z
    · exact ⟨r, by rw [z]⟩
    · have lt := (List.pairwise_cons.mp u).1 _ z
      have h2 := hx.2.1
      unfold ltF at lt
      omega
structure TnM (t : List (Nat × Nat)) : Prop where
  tn : Tn t
  mv : ∀ i, i < t.length → Tn (srt (mvL t i))
theorem tnM_of (T : Tn t) (hb : ∀ p ∈ t, ∀ q ∈ t, (mv1 q p).1 ≤ 1000000000 ∧ (mv1 q p).2 ≤ 1000000000) : TnM t := by
  refine ⟨T, fun i hi => ?_⟩
  have hq : t.getD i (1, 1) ∈ t := by
    rw [List.getD_eq_getElem?_getD, List.getElem?_eq_getElem hi]
    exact List.getElem_mem hi
  obtain ⟨q1, _, _⟩ := T.el _ hq
  refine srt_tn ?_ (by unfold mvL; rw [List.length_map]; exact T.le) fun p hp => ?_
  · refine List.mem_map.mpr ⟨_, hq, ?_⟩
    unfold mv1
    rw [Nat.mul_comm (t.getD i (1, 1)).2]
    exact oct_one (Nat.mul_pos q1.1 q1.2.1)
  · obtain ⟨x, hx, rfl⟩ := List.mem_map.mp hp
    obtain ⟨x0, y0, _, _, _, _⟩ := mv_facts T (i := i) hx
    obtain ⟨a, b, c⟩ := oct_red x0 y0
    have d := hb x hx _ hq
    exact ⟨a, b, c, d.1, d.2⟩
theorem fif_tn {first many : Nat} (h1 : first ≤ 11) (h2 : first < many) (h3 : many ≤ 12) : TnM (srt (fiL first many)) := by
  have hel : ∀ p ∈ fiL first many, ∃ i : Nat, i < many ∧ p = fif ((i : Int) - (first : Int)) := fun p hp => by
    obtain ⟨i, hi, rfl⟩ := List.mem_map.mp hp
    exact ⟨i, List.mem_range.mp hi, rfl⟩
  have T : Tn (srt (fiL first many)) := srt_tn (by
    refine List.mem_map.mpr ⟨first, List.mem_range.mpr h2, ?_⟩
    rw [Int.sub_self]
    exact fif_0) (by unfold fiL; rw [List.length_map, List.length_range]; exact h3) fun p hp => by
      obtain ⟨i, hi, rfl⟩ := hel p hp
      exact fif_facts (by omega) (by omega)
  have m := (srt_facts fun p hp => (by
    obtain ⟨i, hi, rfl⟩ := hel p hp
    exact (fif_facts (k := (i : Int) - (first : Int)) (by omega) (by omega)).1)).2
  refine tnM_of T fun p hp q hq => ?_
  obtain ⟨i, hi, rfl⟩ := hel p ((m p).mp hp)
  obtain ⟨j, hj, rfl⟩ := hel q ((m q).mp hq)
  rw [fif_mv]
  obtain ⟨_, _, _, d, e⟩ := fif_facts (k := (i : Int) - (first : Int) - ((j : Int) - (first : Int))) (by omega) (by omega)
  exact ⟨d, e⟩
def ElD (p : Nat × Nat) : Prop := Red p ∧ p.2 ≤ p.1 ∧ p.1 < 2 * p.2 ∧ p.1 ≤ 48 ∧ p.2 ≤ 48
theorem drawn_tn {l : List (Nat × Nat)} (h1 : (1, 1) ∈ l) (hl : l.length ≤ 12) (h : ∀ p ∈ l, ElD p) : TnM (srt l) := by
  have T : Tn (srt l) := srt_tn h1 hl fun p hp => by
    obtain ⟨a, b, c, d, e⟩ := h p hp
    exact ⟨a, b, c, by omega, by omega⟩
  have m := (srt_facts fun p hp => (h p hp).1).2
  refine tnM_of T fun p hp q hq => ?_
  obtain ⟨a, _, _, d, e⟩ := h p ((m p).mp hp)
  obtain ⟨a', _, _, d', e'⟩ := h q ((m q).mp hq)
  have u1 : p.1 * q.2 ≤ 48 * 48 := Nat.mul_le_mul d e'
  have u2 : p.2 * q.1 ≤ 48 * 48 := Nat.mul_le_mul e d'
  exact oct_le (Nat.mul_pos a.1 a'.2.1) (Nat.mul_pos a.2.1 a'.1) (by omega) (by omega)
abbrev bDraw : SS := sMutL 1 mAppend (aCons (eApp 2 fm__law_folded (aCons (eBin vAdd (eP (.int 1)) (eRoll 24)) (aCons (eBin vAdd (eP (.int 1)) (eRoll 24)) aNil))) aNil)
theorem one_roll {ρ : Rho} {m : Nat} {mi c : Int} {cn : Nat} (hc : c = (cn : Nat)) (hmi : mi = (m : Nat)) (h0 : ρ[0]? = some (some .dice)) (h : DcOk k dc) (hk : k ≤ 100000) (h1 : 1 ≤ m) (h2 : m ≤ 1000) : ∃ (r : Nat) (dc' : Dc), eBin vAdd (eP (.int c)) (eRoll mi) ρ dc = .ok (.p (.int (r : Nat)), dc') ∧ cn ≤ r ∧ r < cn + m ∧ DcOk (k + 1) dc' := by
  subst hc
  obtain ⟨r, dc', e, hr, hd⟩ := eroll (ρ := ρ) hmi h0 h hk h1 h2
  refine ⟨cn + r, dc', ?_, by omega, by omega, hd⟩
  rw [eBin_ap, eP_ap, and_ok, e, and_ok]
  show Res.ok (Val.p (.int ((cn : Int) + (r : Int))), dc') = _
  rw [Int.natCast_add]
theorem draw_step {l : List (Nat × Nat)} (hl : l.length ≤ 50) (hE : ∀ p ∈ l, ElD p) (h : DcOk k dc) (hk : k ≤ 10000) (x2 : Option Val) : ∃ p dc', bDraw [some .dice, some (.ol (l.map qD)), x2] dc = .ok (.nx, [some .dice, some (.ol ((l ++ [p]).map qD)), x2], dc') ∧ ElD p ∧ DcOk (k + 2) dc' := by
  obtain ⟨a, dc1, e1, a0, a1, d1⟩ := one_roll (ρ := [some .dice, some (.ol (l.map qD)), x2]) (m := 24) (mi := 24) (c := 1) (cn := 1) rfl rfl rfl h (by omega) (by decide) (by decide)
  obtain ⟨b, dc2, e2, b0, b1, d2⟩ := one_roll (ρ := [some .dice, some (.ol (l.map qD)), x2]) (m := 24) (mi := 24) (c := 1) (cn := 1) rfl rfl rfl d1 (by omega) (by decide) (by decide)
  have eo := lfold_eq (dc := dc2) (a := a) (b := b) (k := 30) (by omega) (by omega) (bd9 (by omega)) (bd9 (by omega)) (by decide) (by decide)
  obtain ⟨r1, r2, r3⟩ := oct_red (a := a) (b := b) (by omega) (by omega)
  obtain ⟨o1, o2⟩ := oct_le (a := a) (b := b) (M := 48) (by omega) (by omega) (by omega) (by omega)
  refine ⟨octF a b, dc2, ?_, ⟨r1, r2, r3, o1, o2⟩, d2⟩
  have ea : aCons (eApp 2 fm__law_folded (aCons (eBin vAdd (eP (.int 1)) (eRoll 24)) (aCons (eBin vAdd (eP (.int 1)) (eRoll 24)) aNil))) aNil [some .dice, some (.ol (l.map qD)), x2] dc = .ok ([.p (qD (octF a b))], dc2) := by
    rw [aCons_ap, eApp_ap, aCons_ap, e1, and_ok, aCons_ap, e2]
    simp only [and_ok, aNil_ap, argB_p2, eo]
  have em : (l ++ [octF a b]).map qD = l.map qD ++ [qD (octF a b)] := by rw [List.map_append]; rfl
  rw [em]
  unfold bDraw sMutL
  show SM.thn _ _ [some .dice, some (.ol (l.map qD)), x2] dc = _
  rw [thn_ap, ea, and_ok]
  show (match (if (l.map qD).length < 100000 then some (l.map qD ++ [qD (octF a b)]) else none) with | some ds' => Res.ok (Fl.nx, ([some .dice, some (.ol (l.map qD)), x2] : Rho).set 1 (some (.ol ds')), dc2) | none => .stuck) = _
  rw [if_pos (by rw [List.length_map]; omega)]
  rfl
theorem tuning_ok (h : DcOk k dc) (hk : k ≤ 5000) : ∃ t dc', fm__law_tuning [.dice] dc = .ok (.p (tD t), dc') ∧ TnM t ∧ DcOk (k + 20) dc' := by
  obtain ⟨r, dc1, e1, hr, d1⟩ := eroll (ρ := [some .dice, none, none]) (m := 2) (mi := 2) rfl rfl h (by omega) (by decide) (by decide)
  have et : tstV (eBin vEq (eRoll 2) (eP (.int 0))) [some .dice, none, none] dc = .ok (((r : Int) == 0), dc1) := by
    rw [tstV_ap, eBin_ap, e1]
    rfl
  by_cases c : r = 0
  · obtain ⟨f, dc2, e2, hf, d2⟩ := eroll (ρ := [some .dice, none, none]) (m := 5) (mi := 5) rfl rfl d1 (by omega) (by decide) (by decide)
    obtain ⟨m, dc3, e3, m0, m1, d3⟩ := one_roll (ρ := [some .dice, none, none]) (m := 8) (mi := 8) (c := 5) (cn := 5) rfl rfl rfl d2 (by omega) (by decide) (by decide)
    have ef := lfifths_eq (dc := dc3) (first := f) (many := m) (by omega) (by omega)
    refine ⟨srt (fiL f m), dc3, ?_, fif_tn (by omega) (by omega) (by omega), d3.mono (by omega)⟩
    have ea : eApp 2 fm__law_fifths (aCons (eRoll 5) (aCons (eBin vAdd (eP (.int 5)) (eRoll 8)) aNil)) [some .dice, none, none] dc1 = .ok (.p (tD (srt (fiL f m))), dc3) := by
      rw [eApp_ap, aCons_ap, e2, and_ok, aCons_ap, e3]
      simp only [and_ok, aNil_ap, argB_p2, ef]
    have eb : ((r : Int) == 0) = true := by rw [c]; rfl
    rw [eb] at et
    have sE : sb__law_tuning [some .dice, none, none] dc = .ok (.rt (.p (tD (srt (fiL f m)))), [some .dice, none, none], dc3) := by
      unfold sb__law_tuning
      unfold eRoll at et ea
      rw [seq_ap, sIf_ap, et, and_ok]
      simp only [if_true]
      rw [ret_go ea]
      rfl
    exact fn_go sE
  · have eb : ((r : Int) == 0) = false := by
      rw [Bool.eq_false_iff, ne_eq, beq_iff_eq]
      omega
    rw [eb] at et
    obtain ⟨n, dc2, e2, hn, d2⟩ := it1_roll (ρ := [some .dice, some (.ol ([((1 : Nat), (1 : Nat))].map qD)), none]) (m := 6) (mi := 6) rfl rfl d1 (by omega) (by decide) (by decide)
    have L := forD_run (tg := tgN 2) (body := bDraw) (I := fun xs ρ dc => ∃ (l : List (Nat × Nat)) (j : Nat) (x2 : Option Val), ρ = [some .dice, some (.ol (l.map qD)), x2] ∧ (1, 1) ∈ l ∧ (∀ p ∈ l, ElD p) ∧ l.length + xs.length = 1 + n ∧ DcOk j dc ∧ j + 2 * xs.length = k + 2 + 2 * n)
      (O := fun r => ∃ (l : List (Nat × Nat)) (x2 : Option Val) (dc3 : Dc), r = .ok (.nx, [some .dice, some (.ol (l.map qD)), x2], dc3) ∧ (1, 1) ∈ l ∧ (∀ p ∈ l, ElD p) ∧ l.length = 1 + n ∧ DcOk (k + 2 + 2 * n) dc3) (fun x xs ρ dcj ⟨l, j, x2, hρ, h1, hE, hl, hd, hj⟩ => by
        subst hρ
        rw [List.length_cons] at hl hj
        obtain ⟨p, dc4, e4, hp, hd'⟩ := draw_step (x2 := some (.p x)) (l := l) (by omega) hE hd (by omega)
        refine ⟨_, rfl, .inl ⟨_, dc4, e4, l ++ [p], j + 2, _, rfl, List.mem_append_left _ h1, fun q hq => ?_, ?_, hd', by omega⟩⟩
        · rcases List.mem_append.mp hq with z | z
          · exact hE q z
          · rw [List.mem_singleton.mp z]; exact hp
        · rw [List.length_append, List.length_singleton]
          omega) (fun ρ dcj ⟨l, j, x2, hρ, h1, hE, hl, hd, hj⟩ => by
        subst hρ
        rw [List.length_nil] at hl hj
        exact ⟨l, x2, dcj, rfl, h1, hE, by omega, hd.mono (by omega)⟩) ((List.range n).map (fun i : Nat => PyData.int i)) [some .dice, some (.ol ([((1 : Nat), (1 : Nat))].map qD)), none] dc2
      ⟨[(1, 1)], k + 2, none, rfl, List.mem_cons_self, (fun p hp => by
        rw [List.mem_singleton.mp hp]
        exact ⟨⟨by decide, by decide, by decide⟩, by decide, by decide, by decide, by decide⟩), (by rw [List.length_map, List.length_range]; rfl), d2, (by rw [List.length_map, List.length_range])⟩
    obtain ⟨l, x2, dc3, e3, h1, hE, hl, d3⟩ := L
    have eo := lsorted_eq (dc := dc3) (l := l) (k := 30) (by omega) (fun p hp => (hE p hp).1) (by decide) (by decide) (fun p hp => by
      obtain ⟨_, _, _, a, b⟩ := hE p hp
      exact ⟨bd9 (by omega), bd9 (by omega)⟩)
    refine ⟨srt l, dc3, ?_, drawn_tn h1 (by omega) hE, d3.mono (by omega)⟩
    have sE : sb__law_tuning [some .dice, none, none] dc = .ok (.rt (.p (tD (srt l))), [some .dice, some (.p (.list (l.map qD))), x2], dc3) := by
      unfold sb__law_tuning
      unfold eRoll at et e2
      refine seq_go (if_no et) ?_
      refine seq_go (ρ' := [some .dice, some (.ol ([((1 : Nat), (1 : Nat))].map qD)), none]) (dc' := dc1) rfl ?_
      refine seq_go (ρ' := [some .dice, some (.ol (l.map qD)), x2]) (dc' := dc3) ?_ ?_
      · rw [sFor_ap, e2, and_ok]
        exact e3
      · show sRet _ [some .dice, some (.p (.list (l.map qD))), x2] dc3 = _
        refine ret_go ?_
        simp only [eApp_ap, aCons_ap, aNil_ap, eVar_ap, List.getElem?_cons_zero, List.getElem?_cons_succ, and_ok, argB_p1, eo]
    exact fn_go sE
/-! ### what is no tuning -/
def q1 : PyData := qD (1, 1)
def badT : List PyData := [.none, .tuple [], .list [q1], .tuple [qD (2, 1)], .tuple [q1, q1], .tuple [q1, qD (2, 1)], .tuple [q1, qD (6, 4)], .tuple [q1, qD (5, 3), qD (3, 2)], .tuple [q1, q1, q1, q1, q1, q1, q1, q1, q1, q1, q1, q1, q1]]
theorem badT_no {d : PyData} (h : d ∈ badT) (dc : Dc) : fm_is_tuning [.p d] dc = .ok (.p (.bool false), dc) := by
  unfold badT at h
  simp only [List.mem_cons, List.not_mem_nil, or_false] at h
  rcases h with rfl | rfl | rfl | rfl | rfl | rfl | rfl | rfl | rfl <;> rfl
theorem fifths_first {d : PyData} : fm_by_fifths [.p (.int 12), .p d] dc = .exn "first" := by
  have e1 := need_int_f (dc := dc) (s := "first") (d := .int 12) (lo := 0) (hi := 11) (by decide) (.inr ⟨12, rfl, .inr (by decide)⟩)
  unfold fm_by_fifths sb_by_fifths
  simp only [and_ok, and_exn, and_stuck, opt_some, bind_ap, thn_ap, ret_ap, sopt_ap, eP_ap, eVar_ap, eBin_ap, eUn_ap, eChain_ap, chK_t, chK_f, aNil_ap, aCons_ap, eCall_ap, tstV_ap, asB_b, tAnd_ap, tOr_ap, tNot_ap, eAnd_ap, eOr_ap, eNot_ap, eIf_ap, eApp_ap, eAppK_ap, argB_p1, argB_p2, argB_p3, argB_p4, argB_p5, argB_d1, argB_d2, argB_s2, argB_f2, eAll_ap, eComp_ap, itS_ap, itF_ap, frD, tgN_ap, tgT_ap, seq_ap, sNx_ap, sIf_ap, sRet_ap, rtK_some, sSet_ap, setK_some, sFor_ap, unp_ap, unK_2, unK_3, fnK_rt, fnK_nx, fnK_exn, fnM_ap, List.getElem?_cons_zero, List.getElem?_cons_succ, List.map_cons, List.map_nil, List.length_cons, List.length_nil, List.length_map, List.replicate, List.append_nil, List.cons_append, List.nil_append, Option.map_some, Option.map_none, Option.bind_some, Option.bind_none, if_true, if_false, ite_true, ite_false, Bool.false_eq_true, Bool.true_eq_false, reduceCtorEq, isi_t, len_t, len_l, vLe, vLt, vGt, vGe, vAdd, vSub, sq_t, sq_l, wipeR, Val.ice, Val.frz, datas, Bool.not_true, Bool.not_false, setAll, List.set_cons_zero, List.set_cons_succ, List.set_nil, Nat.reduceAdd, Nat.reduceSub, Nat.reduceLeDiff, decide_true, expr_ap, e1]
theorem fifths_many : fm_by_fifths [.p (.int 0), .p (.int 13)] dc = .exn "many" := by
  have e0 := need_int_t (dc := dc) (s := "first") (i := 0) (lo := 0) (hi := 11) (by decide) (by decide)
  have e1 := need_int_f (dc := dc) (s := "many") (d := .int 13) (lo := 1) (hi := 12) (by decide) (.inr ⟨13, rfl, .inr (by decide)⟩)
  unfold fm_by_fifths sb_by_fifths
  simp only [and_ok, and_exn, and_stuck, opt_some, bind_ap, thn_ap, ret_ap, sopt_ap, eP_ap, eVar_ap, eBin_ap, eUn_ap, eChain_ap, chK_t, chK_f, aNil_ap, aCons_ap, eCall_ap, tstV_ap, asB_b, tAnd_ap, tOr_ap, tNot_ap, eAnd_ap, eOr_ap, eNot_ap, eIf_ap, eApp_ap, eAppK_ap, argB_p1, argB_p2, argB_p3, argB_p4, argB_p5, argB_d1, argB_d2, argB_s2, argB_f2, eAll_ap, eComp_ap, itS_ap, itF_ap, frD, tgN_ap, tgT_ap, seq_ap, sNx_ap, sIf_ap, sRet_ap, rtK_some, sSet_ap, setK_some, sFor_ap, unp_ap, unK_2, unK_3, fnK_rt, fnK_nx, fnK_exn, fnM_ap, List.getElem?_cons_zero, List.getElem?_cons_succ, List.map_cons, List.map_nil, List.length_cons, List.length_nil, List.length_map, List.replicate, List.append_nil, List.cons_append, List.nil_append, Option.map_some, Option.map_none, Option.bind_some, Option.bind_none, if_true, if_false, ite_true, ite_false, Bool.false_eq_true, Bool.true_eq_false, reduceCtorEq, isi_t, len_t, len_l, vLe, vLt, vGt, vGe, vAdd, vSub, sq_t, sq_l, wipeR, Val.ice, Val.frz, datas, Bool.not_true, Bool.not_false, setAll, List.set_cons_zero, List.set_cons_succ, List.set_nil, Nat.reduceAdd, Nat.reduceSub, Nat.reduceLeDiff, decide_true, expr_ap, e0, e1]
theorem interval_tun {b d e : PyData} (hb : b ∈ badT) : fm_interval [.p b, .p d, .p e] dc = .exn "tuning" := by
  have e0 := need_tuning_f (dc := dc) (n := "tuning") (by decide) (badT_no hb dc)
  unfold fm_interval sb_interval
  simp only [and_ok, and_exn, and_stuck, opt_some, bind_ap, thn_ap, ret_ap, sopt_ap, eP_ap, eVar_ap, eBin_ap, eUn_ap, eChain_ap, chK_t, chK_f, aNil_ap, aCons_ap, eCall_ap, tstV_ap, asB_b, tAnd_ap, tOr_ap, tNot_ap, eAnd_ap, eOr_ap, eNot_ap, eIf_ap, eApp_ap, eAppK_ap, argB_p1, argB_p2, argB_p3, argB_p4, argB_p5, argB_d1, argB_d2, argB_s2, argB_f2, eAll_ap, eComp_ap, itS_ap, itF_ap, frD, tgN_ap, tgT_ap, seq_ap, sNx_ap, sIf_ap, sRet_ap, rtK_some, sSet_ap, setK_some, sFor_ap, unp_ap, unK_2, unK_3, fnK_rt, fnK_nx, fnK_exn, fnM_ap, List.getElem?_cons_zero, List.getElem?_cons_succ, List.map_cons, List.map_nil, List.length_cons, List.length_nil, List.length_map, List.replicate, List.append_nil, List.cons_append, List.nil_append, Option.map_some, Option.map_none, Option.bind_some, Option.bind_none, if_true, if_false, ite_true, ite_false, Bool.false_eq_true, Bool.true_eq_false, reduceCtorEq, isi_t, len_t, len_l, vLe, vLt, vGt, vGe, vAdd, vSub, sq_t, sq_l, wipeR, Val.ice, Val.frz, datas, Bool.not_true, Bool.not_false, setAll, List.set_cons_zero, List.set_cons_succ, List.set_nil, Nat.reduceAdd, Nat.reduceSub, Nat.reduceLeDiff, decide_true, expr_ap, e0]
theorem interval_low (T : Tn t) {e : PyData} : fm_interval [.p (tD t), .p (.int 61), .p e] dc = .exn "low" := by
  have n1 := need_tuning_t (n := "tuning") (is_tuning_ok (dc := dc) T)
  have e1 := need_int_f (dc := dc) (s := "low") (d := .int 61) (lo := 0) (hi := 60) (by decide) (.inr ⟨61, rfl, .inr (by decide)⟩)
  unfold fm_interval sb_interval
  simp only [and_ok, and_exn, and_stuck, opt_some, bind_ap, thn_ap, ret_ap, sopt_ap, eP_ap, eVar_ap, eBin_ap, eUn_ap, eChain_ap, chK_t, chK_f, aNil_ap, aCons_ap, eCall_ap, tstV_ap, asB_b, tAnd_ap, tOr_ap, tNot_ap, eAnd_ap, eOr_ap, eNot_ap, eIf_ap, eApp_ap, eAppK_ap, argB_p1, argB_p2, argB_p3, argB_p4, argB_p5, argB_d1, argB_d2, argB_s2, argB_f2, eAll_ap, eComp_ap, itS_ap, itF_ap, frD, tgN_ap, tgT_ap, seq_ap, sNx_ap, sIf_ap, sRet_ap, rtK_some, sSet_ap, setK_some, sFor_ap, unp_ap, unK_2, unK_3, fnK_rt, fnK_nx, fnK_exn, fnM_ap, List.getElem?_cons_zero, List.getElem?_cons_succ, List.map_cons, List.map_nil, List.length_cons, List.length_nil, List.length_map, List.replicate, List.append_nil, List.cons_append, List.nil_append, Option.map_some, Option.map_none, Option.bind_some, Option.bind_none, if_true, if_false, ite_true, ite_false, Bool.false_eq_true, Bool.true_eq_false, reduceCtorEq, isi_t, len_t, len_l, vLe, vLt, vGt, vGe, vAdd, vSub, sq_t, sq_l, wipeR, Val.ice, Val.frz, datas, Bool.not_true, Bool.not_false, setAll, List.set_cons_zero, List.set_cons_succ, List.set_nil, Nat.reduceAdd, Nat.reduceSub, Nat.reduceLeDiff, decide_true, expr_ap, n1, e1]
theorem beats_above (T : Tn t) {e : PyData} : fm_beats [.p (tD t), .p (.int 0), .p (.int 0), .p (.int 0), .p e] dc = .exn "above" := by
  have n1 := need_tuning_t (n := "tuning") (is_tuning_ok (dc := dc) T)
  have n2 := need_int_t (dc := dc) (s := "low") (i := 0) (lo := 0) (hi := 60) (by decide) (by decide)
  have n3 := need_int_t (dc := dc) (s := "high") (i := 0) (lo := 0) (hi := 60) (by decide) (by decide)
  have e1 := need_int_f (dc := dc) (s := "above") (d := .int 0) (lo := 1) (hi := 20) (by decide) (.inr ⟨0, rfl, .inl (by decide)⟩)
  unfold fm_beats sb_beats
  simp only [and_ok, and_exn, and_stuck, opt_some, bind_ap, thn_ap, ret_ap, sopt_ap, eP_ap, eVar_ap, eBin_ap, eUn_ap, eChain_ap, chK_t, chK_f, aNil_ap, aCons_ap, eCall_ap, tstV_ap, asB_b, tAnd_ap, tOr_ap, tNot_ap, eAnd_ap, eOr_ap, eNot_ap, eIf_ap, eApp_ap, eAppK_ap, argB_p1, argB_p2, argB_p3, argB_p4, argB_p5, argB_d1, argB_d2, argB_s2, argB_f2, eAll_ap, eComp_ap, itS_ap, itF_ap, frD, tgN_ap, tgT_ap, seq_ap, sNx_ap, sIf_ap, sRet_ap, rtK_some, sSet_ap, setK_some, sFor_ap, unp_ap, unK_2, unK_3, fnK_rt, fnK_nx, fnK_exn, fnM_ap, List.getElem?_cons_zero, List.getElem?_cons_succ, List.map_cons, List.map_nil, List.length_cons, List.length_nil, List.length_map, List.replicate, List.append_nil, List.cons_append, List.nil_append, Option.map_some, Option.map_none, Option.bind_some, Option.bind_none, if_true, if_false, ite_true, ite_false, Bool.false_eq_true, Bool.true_eq_false, reduceCtorEq, isi_t, len_t, len_l, vLe, vLt, vGt, vGe, vAdd, vSub, sq_t, sq_l, wipeR, Val.ice, Val.frz, datas, Bool.not_true, Bool.not_false, setAll, List.set_cons_zero, List.set_cons_succ, List.set_nil, Nat.reduceAdd, Nat.reduceSub, Nat.reduceLeDiff, decide_true, expr_ap, n1, n2, n3, e1]
theorem beats_below (T : Tn t) : fm_beats [.p (tD t), .p (.int 0), .p (.int 0), .p (.int 1), .p (.int 21)] dc = .exn "below" := by
  have n1 := need_tuning_t (n := "tuning") (is_tuning_ok (dc := dc) T)
  have n2 := need_int_t (dc := dc) (s := "low") (i := 0) (lo := 0) (hi := 60) (by decide) (by decide)
  have n3 := need_int_t (dc := dc) (s := "high") (i := 0) (lo := 0) (hi := 60) (by decide) (by decide)
  have n4 := need_int_t (dc := dc) (s := "above") (i := 1) (lo := 1) (hi := 20) (by decide) (by decide)
  have e1 := need_int_f (dc := dc) (s := "below") (d := .int 21) (lo := 1) (hi := 20) (by decide) (.inr ⟨21, rfl, .inr (by decide)⟩)
  unfold fm_beats sb_beats
  simp only [and_ok, and_exn, and_stuck, opt_some, bind_ap, thn_ap, ret_ap, sopt_ap, eP_ap, eVar_ap, eBin_ap, eUn_ap, eChain_ap, chK_t, chK_f, aNil_ap, aCons_ap, eCall_ap, tstV_ap, asB_b, tAnd_ap, tOr_ap, tNot_ap, eAnd_ap, eOr_ap, eNot_ap, eIf_ap, eApp_ap, eAppK_ap, argB_p1, argB_p2, argB_p3, argB_p4, argB_p5, argB_d1, argB_d2, argB_s2, argB_f2, eAll_ap, eComp_ap, itS_ap, itF_ap, frD, tgN_ap, tgT_ap, seq_ap, sNx_ap, sIf_ap, sRet_ap, rtK_some, sSet_ap, setK_some, sFor_ap, unp_ap, unK_2, unK_3, fnK_rt, fnK_nx, fnK_exn, fnM_ap, List.getElem?_cons_zero, List.getElem?_cons_succ, List.map_cons, List.map_nil, List.length_cons, List.length_nil, List.length_map, List.replicate, List.append_nil, List.cons_append, List.nil_append, Option.map_some, Option.map_none, Option.bind_some, Option.bind_none, if_true, if_false, ite_true, ite_false, Bool.false_eq_true, Bool.true_eq_false, reduceCtorEq, isi_t, len_t, len_l, vLe, vLt, vGt, vGe, vAdd, vSub, sq_t, sq_l, wipeR, Val.ice, Val.frz, datas, Bool.not_true, Bool.not_false, setAll, List.set_cons_zero, List.set_cons_succ, List.set_nil, Nat.reduceAdd, Nat.reduceSub, Nat.reduceLeDiff, decide_true, expr_ap, n1, n2, n3, n4, e1]
theorem pure_tun {b d e : PyData} (hb : b ∈ badT) : fm_pure_pairs [.p b, .p d, .p e] dc = .exn "tuning" := by
  have e0 := need_tuning_f (dc := dc) (n := "tuning") (by decide) (badT_no hb dc)
  unfold fm_pure_pairs sb_pure_pairs
  simp only [and_ok, and_exn, and_stuck, opt_some, bind_ap, thn_ap, ret_ap, sopt_ap, eP_ap, eVar_ap, eBin_ap, eUn_ap, eChain_ap, chK_t, chK_f, aNil_ap, aCons_ap, eCall_ap, tstV_ap, asB_b, tAnd_ap, tOr_ap, tNot_ap, eAnd_ap, eOr_ap, eNot_ap, eIf_ap, eApp_ap, eAppK_ap, argB_p1, argB_p2, argB_p3, argB_p4, argB_p5, argB_d1, argB_d2, argB_s2, argB_f2, eAll_ap, eComp_ap, itS_ap, itF_ap, frD, tgN_ap, tgT_ap, seq_ap, sNx_ap, sIf_ap, sRet_ap, rtK_some, sSet_ap, setK_some, sFor_ap, unp_ap, unK_2, unK_3, fnK_rt, fnK_nx, fnK_exn, fnM_ap, List.getElem?_cons_zero, List.getElem?_cons_succ, List.map_cons, List.map_nil, List.length_cons, List.length_nil, List.length_map, List.replicate, List.append_nil, List.cons_append, List.nil_append, Option.map_some, Option.map_none, Option.bind_some, Option.bind_none, if_true, if_false, ite_true, ite_false, Bool.false_eq_true, Bool.true_eq_false, reduceCtorEq, isi_t, len_t, len_l, vLe, vLt, vGt, vGe, vAdd, vSub, sq_t, sq_l, wipeR, Val.ice, Val.frz, datas, Bool.not_true, Bool.not_false, setAll, List.set_cons_zero, List.set_cons_succ, List.set_nil, Nat.reduceAdd, Nat.reduceSub, Nat.reduceLeDiff, decide_true, expr_ap, e0]
theorem nearest_low (T : Tn t) {d e : PyData} : fm_nearest [.p (tD t), .p (.int (t.length : Nat)), .p d, .p e] dc = .exn "low" := by
  have n1 := need_tuning_t (n := "tuning") (is_tuning_ok (dc := dc) T)
  have e1 := need_int_f (dc := dc) (s := "low") (d := .int (t.length : Nat)) (lo := 0) (hi := (t.length : Int) - 1) (by decide) (.inr ⟨(t.length : Nat), rfl, .inr (by omega)⟩)
  unfold fm_nearest sb_nearest
  simp only [and_ok, and_exn, and_stuck, opt_some, bind_ap, thn_ap, ret_ap, sopt_ap, eP_ap, eVar_ap, eBin_ap, eUn_ap, eChain_ap, chK_t, chK_f, aNil_ap, aCons_ap, eCall_ap, tstV_ap, asB_b, tAnd_ap, tOr_ap, tNot_ap, eAnd_ap, eOr_ap, eNot_ap, eIf_ap, eApp_ap, eAppK_ap, argB_p1, argB_p2, argB_p3, argB_p4, argB_p5, argB_d1, argB_d2, argB_s2, argB_f2, eAll_ap, eComp_ap, itS_ap, itF_ap, frD, tgN_ap, tgT_ap, seq_ap, sNx_ap, sIf_ap, sRet_ap, rtK_some, sSet_ap, setK_some, sFor_ap, unp_ap, unK_2, unK_3, fnK_rt, fnK_nx, fnK_exn, fnM_ap, List.getElem?_cons_zero, List.getElem?_cons_succ, List.map_cons, List.map_nil, List.length_cons, List.length_nil, List.length_map, List.replicate, List.append_nil, List.cons_append, List.nil_append, Option.map_some, Option.map_none, Option.bind_some, Option.bind_none, if_true, if_false, ite_true, ite_false, Bool.false_eq_true, Bool.true_eq_false, reduceCtorEq, isi_t, len_t, len_l, vLe, vLt, vGt, vGe, vAdd, vSub, sq_t, sq_l, wipeR, Val.ice, Val.frz, datas, Bool.not_true, Bool.not_false, setAll, List.set_cons_zero, List.set_cons_succ, List.set_nil, Nat.reduceAdd, Nat.reduceSub, Nat.reduceLeDiff, decide_true, expr_ap, n1, e1]
theorem comma_below : fm_comma [.p (.int 1), .p (.int 0), .p (.int 0)] dc = .exn "below" := by
  have n4 := need_int_t (dc := dc) (s := "above") (i := 1) (lo := 1) (hi := 20) (by decide) (by decide)
  have e1 := need_int_f (dc := dc) (s := "below") (d := .int 0) (lo := 1) (hi := 20) (by decide) (.inr ⟨0, rfl, .inl (by decide)⟩)
  unfold fm_comma sb_comma
  simp only [and_ok, and_exn, and_stuck, opt_some, bind_ap, thn_ap, ret_ap, sopt_ap, eP_ap, eVar_ap, eBin_ap, eUn_ap, eChain_ap, chK_t, chK_f, aNil_ap, aCons_ap, eCall_ap, tstV_ap, asB_b, tAnd_ap, tOr_ap, tNot_ap, eAnd_ap, eOr_ap, eNot_ap, eIf_ap, eApp_ap, eAppK_ap, argB_p1, argB_p2, argB_p3, argB_p4, argB_p5, argB_d1, argB_d2, argB_s2, argB_f2, eAll_ap, eComp_ap, itS_ap, itF_ap, frD, tgN_ap, tgT_ap, seq_ap, sNx_ap, sIf_ap, sRet_ap, rtK_some, sSet_ap, setK_some, sFor_ap, unp_ap, unK_2, unK_3, fnK_rt, fnK_nx, fnK_exn, fnM_ap, List.getElem?_cons_zero, List.getElem?_cons_succ, List.map_cons, List.map_nil, List.length_cons, List.length_nil, List.length_map, List.replicate, List.append_nil, List.cons_append, List.nil_append, Option.map_some, Option.map_none, Option.bind_some, Option.bind_none, if_true, if_false, ite_true, ite_false, Bool.false_eq_true, Bool.true_eq_false, reduceCtorEq, isi_t, len_t, len_l, vLe, vLt, vGt, vGe, vAdd, vSub, sq_t, sq_l, wipeR, Val.ice, Val.frz, datas, Bool.not_true, Bool.not_false, setAll, List.set_cons_zero, List.set_cons_succ, List.set_nil, Nat.reduceAdd, Nat.reduceSub, Nat.reduceLeDiff, decide_true, expr_ap, n4, e1]
theorem comma_many : fm_comma [.p (.int 3), .p (.int 2), .p (.int 13)] dc = .exn "many" := by
  have n4 := need_int_t (dc := dc) (s := "above") (i := 3) (lo := 1) (hi := 20) (by decide) (by decide)
  have n5 := need_int_t (dc := dc) (s := "below") (i := 2) (lo := 1) (hi := 20) (by decide) (by decide)
  have e1 := need_int_f (dc := dc) (s := "many") (d := .int 13) (lo := 0) (hi := 12) (by decide) (.inr ⟨13, rfl, .inr (by decide)⟩)
  unfold fm_comma sb_comma
  simp only [and_ok, and_exn, and_stuck, opt_some, bind_ap, thn_ap, ret_ap, sopt_ap, eP_ap, eVar_ap, eBin_ap, eUn_ap, eChain_ap, chK_t, chK_f, aNil_ap, aCons_ap, eCall_ap, tstV_ap, asB_b, tAnd_ap, tOr_ap, tNot_ap, eAnd_ap, eOr_ap, eNot_ap, eIf_ap, eApp_ap, eAppK_ap, argB_p1, argB_p2, argB_p3, argB_p4, argB_p5, argB_d1, argB_d2, argB_s2, argB_f2, eAll_ap, eComp_ap, itS_ap, itF_ap, frD, tgN_ap, tgT_ap, seq_ap, sNx_ap, sIf_ap, sRet_ap, rtK_some, sSet_ap, setK_some, sFor_ap, unp_ap, unK_2, unK_3, fnK_rt, fnK_nx, fnK_exn, fnM_ap, List.getElem?_cons_zero, List.getElem?_cons_succ, List.map_cons, List.map_nil, List.length_cons, List.length_nil, List.length_map, List.replicate, List.append_nil, List.cons_append, List.nil_append, Option.map_some, Option.map_none, Option.bind_some, Option.bind_none, if_true, if_false, ite_true, ite_false, Bool.false_eq_true, Bool.true_eq_false, reduceCtorEq, isi_t, len_t, len_l, vLe, vLt, vGt, vGe, vAdd, vSub, sq_t, sq_l, wipeR, Val.ice, Val.frz, datas, Bool.not_true, Bool.not_false, setAll, List.set_cons_zero, List.set_cons_succ, List.set_nil, Nat.reduceAdd, Nat.reduceSub, Nat.reduceLeDiff, decide_true, expr_ap, n4, n5, e1]
theorem moved_tone (T : Tn t) : fm_moved [.p (tD t), .p (.int (-1))] dc = .exn "tone" := by
  have n1 := need_tuning_t (n := "tuning") (is_tuning_ok (dc := dc) T)
  have e1 := need_int_f (dc := dc) (s := "tone") (d := .int (-1)) (lo := 0) (hi := (t.length : Int) - 1) (by decide) (.inr ⟨-1, rfl, .inl (by decide)⟩)
  unfold fm_moved sb_moved
  simp only [and_ok, and_exn, and_stuck, opt_some, bind_ap, thn_ap, ret_ap, sopt_ap, eP_ap, eVar_ap, eBin_ap, eUn_ap, eChain_ap, chK_t, chK_f, aNil_ap, aCons_ap, eCall_ap, tstV_ap, asB_b, tAnd_ap, tOr_ap, tNot_ap, eAnd_ap, eOr_ap, eNot_ap, eIf_ap, eApp_ap, eAppK_ap, argB_p1, argB_p2, argB_p3, argB_p4, argB_p5, argB_d1, argB_d2, argB_s2, argB_f2, eAll_ap, eComp_ap, itS_ap, itF_ap, frD, tgN_ap, tgT_ap, seq_ap, sNx_ap, sIf_ap, sRet_ap, rtK_some, sSet_ap, setK_some, sFor_ap, unp_ap, unK_2, unK_3, fnK_rt, fnK_nx, fnK_exn, fnM_ap, List.getElem?_cons_zero, List.getElem?_cons_succ, List.map_cons, List.map_nil, List.length_cons, List.length_nil, List.length_map, List.replicate, List.append_nil, List.cons_append, List.nil_append, Option.map_some, Option.map_none, Option.bind_some, Option.bind_none, if_true, if_false, ite_true, ite_false, Bool.false_eq_true, Bool.true_eq_false, reduceCtorEq, isi_t, len_t, len_l, vLe, vLt, vGt, vGe, vAdd, vSub, sq_t, sq_l, wipeR, Val.ice, Val.frz, datas, Bool.not_true, Bool.not_false, setAll, List.set_cons_zero, List.set_cons_succ, List.set_nil, Nat.reduceAdd, Nat.reduceSub, Nat.reduceLeDiff, decide_true, expr_ap, n1, e1]
theorem same_other (T : Tn t) {b : PyData} (hb : b ∈ badT) : fm_same_moved [.p (tD t), .p b] dc = .exn "other" := by
  have n1 := need_tuning_t (n := "one") (is_tuning_ok (dc := dc) T)
  have e0 := need_tuning_f (dc := dc) (n := "other") (by decide) (badT_no hb dc)
  unfold fm_same_moved sb_same_moved
  simp only [and_ok, and_exn, and_stuck, opt_some, bind_ap, thn_ap, ret_ap, sopt_ap, eP_ap, eVar_ap, eBin_ap, eUn_ap, eChain_ap, chK_t, chK_f, aNil_ap, aCons_ap, eCall_ap, tstV_ap, asB_b, tAnd_ap, tOr_ap, tNot_ap, eAnd_ap, eOr_ap, eNot_ap, eIf_ap, eApp_ap, eAppK_ap, argB_p1, argB_p2, argB_p3, argB_p4, argB_p5, argB_d1, argB_d2, argB_s2, argB_f2, eAll_ap, eComp_ap, itS_ap, itF_ap, frD, tgN_ap, tgT_ap, seq_ap, sNx_ap, sIf_ap, sRet_ap, rtK_some, sSet_ap, setK_some, sFor_ap, unp_ap, unK_2, unK_3, fnK_rt, fnK_nx, fnK_exn, fnM_ap, List.getElem?_cons_zero, List.getElem?_cons_succ, List.map_cons, List.map_nil, List.length_cons, List.length_nil, List.length_map, List.replicate, List.append_nil, List.cons_append, List.nil_append, Option.map_some, Option.map_none, Option.bind_some, Option.bind_none, if_true, if_false, ite_true, ite_false, Bool.false_eq_true, Bool.true_eq_false, reduceCtorEq, isi_t, len_t, len_l, vLe, vLt, vGt, vGe, vAdd, vSub, sq_t, sq_l, wipeR, Val.ice, Val.frz, datas, Bool.not_true, Bool.not_false, setAll, List.set_cons_zero, List.set_cons_succ, List.set_nil, Nat.reduceAdd, Nat.reduceSub, Nat.reduceLeDiff, decide_true, expr_ap, n1, e0]
end

end K02

set_option maxHeartbeats 4000000
namespace K02
open PySem PySem.Spec PyProof.Rows L2 DL
/-! ### one turn of the law -/
section
variable {dc : Dc} {t : List (Nat × Nat)} {k : Nat} {f m lo hi a b : Nat}
abbrev RT (t : List (Nat × Nat)) (f m lo hi a b : Nat) (x8 x9 x10 x11 x12 x13 x14 x15 x16 x17 x18 x19 x20 x21 : Option Val) : Rho :=
  [some .dice, some (.p (tD t)), some (.p (.int (f : Nat))), some (.p (.int (m : Nat))), some (.p (.int (lo : Nat))), some (.p (.int (hi : Nat))), some (.p (.int (a : Nat))), some (.p (.int (b : Nat))), x8, x9, x10, x11, x12, x13, x14, x15, x16, x17, x18, x19, x20, x21]
theorem u2_eq (T : Tn t) (h1 : lo ≤ 60) (h2 : hi ≤ 60) {x10 x11 x12 x13 x14 x15 x16 x17 x18 x19 x20 x21 : Option Val} : tstV (eBin vNe (eAppK 3 2 fm_interval (aCons (eVar 1) (aCons (eVar 4) aNil)) (aCons (eVar 5) aNil)) (eApp 2 fm__law_frac (aCons (eBin vMul (eBin vIx (eVar 9) (eP (.int 0))) (eBin vIx (eVar 8) (eP (.int 1)))) (aCons (eBin vMul (eBin vIx (eVar 9) (eP (.int 1))) (eBin vIx (eVar 8) (eP (.int 0)))) aNil)))) (RT t f m lo hi a b (some (.p (qD (sp t lo)))) (some (.p (qD (sp t hi)))) x10 x11 x12 x13 x14 x15 x16 x17 x18 x19 x20 x21) dc = .ok (false, dc) := by
  have e1 := interval_eq (dc := dc) T h1 h2
  obtain ⟨a1, a2, a3, _⟩ := sp_facts T h1
  obtain ⟨b1, b2, b3, _⟩ := sp_facts T h2
  have m1 := mul_N (by decide) (by decide) b2 a3 (by decide)
  have m2 := mul_N (by decide) (by decide) b3 a2 (by decide)
  have er := lfrac_N (dc := dc) (a := (sp t hi).1 * (sp t lo).2) (Nat.mul_pos b1.2.1 a1.1) ((b3.mul a2).mono (by decide))
  have er' : fm__law_frac [.p (.int (((sp t hi).1 * (sp t lo).2 : Nat) : Int)), .p (.int (((sp t hi).2 * (sp t lo).1 : Nat) : Int))] dc = .ok (.p (qD (ivl t lo hi)), dc) := er
  have n1 := vNe_refl (Sh.qD (ivl t lo hi)) (by omega)
  have ea : eAppK 3 2 fm_interval (aCons (eVar 1) (aCons (eVar 4) aNil)) (aCons (eVar 5) aNil) (RT t f m lo hi a b (some (.p (qD (sp t lo)))) (some (.p (qD (sp t hi)))) x10 x11 x12 x13 x14 x15 x16 x17 x18 x19 x20 x21) dc = .ok (.p (qD (ivl t lo hi)), dc) := by
    simp only [and_ok, and_exn, and_stuck, opt_some, bind_ap, thn_ap, ret_ap, sopt_ap, eP_ap, eVar_ap, eBin_ap, eUn_ap, eChain_ap, chK_t, chK_f, aNil_ap, aCons_ap, eCall_ap, tstV_ap, asB_b, tAnd_ap, tOr_ap, tNot_ap, eAnd_ap, eOr_ap, eNot_ap, eIf_ap, eApp_ap, eAppK_ap, argB_p1, argB_p2, argB_p3, argB_p4, argB_p5, argB_d1, argB_d2, argB_s2, argB_f2, eAll_ap, eComp_ap, itS_ap, itF_ap, frD, tgN_ap, tgT_ap, seq_ap, sNx_ap, sIf_ap, sRet_ap, rtK_some, sSet_ap, setK_some, sFor_ap, unp_ap, unK_2, unK_3, fnK_rt, fnK_nx, fnK_exn, fnM_ap, List.getElem?_cons_zero, List.getElem?_cons_succ, List.map_cons, List.map_nil, List.length_cons, List.length_nil, List.length_map, List.replicate, List.append_nil, List.cons_append, List.nil_append, Option.map_some, Option.map_none, Option.bind_some, Option.bind_none, if_true, if_false, ite_true, ite_false, Bool.false_eq_true, Bool.true_eq_false, reduceCtorEq, isi_t, len_t, len_l, vLe, vLt, vGt, vGe, vAdd, vSub, sq_t, sq_l, wipeR, Val.ice, Val.frz, datas, Bool.not_true, Bool.not_false, setAll, List.set_cons_zero, List.set_cons_succ, List.set_nil, Nat.reduceAdd, Nat.reduceSub, Nat.reduceLeDiff, decide_true, e1]
  rw [tstV_ap, eBin_ap, ea, and_ok]
  simp only [eApp_ap, aCons_ap, aNil_ap, eBin_ap, eVar_ap, eP_ap, List.getElem?_cons_zero, List.getElem?_cons_succ, and_ok, ix0_q, ix1_q, opt_some, m1, m2, argB_p2, er', n1, asB_b]
theorem u3_eq (T : Tn t) (h1 : lo ≤ 60) (h2 : hi ≤ 60) (ha0 : 1 ≤ a) (ha : a ≤ 20) (hb0 : 1 ≤ b) (hb : b ≤ 20) {x8 x9 x10 x11 x12 x13 x14 x15 x16 x17 x18 x19 x20 x21 : Option Val} : tstV (eBin vNe (eAppK 5 4 fm_beats (aCons (eVar 1) (aCons (eVar 4) (aCons (eVar 5) (aCons (eVar 6) aNil)))) (aCons (eVar 7) aNil)) (eApp 5 fm__law_beats (aCons (eVar 1) (aCons (eVar 4) (aCons (eVar 5) (aCons (eVar 6) (aCons (eVar 7) aNil))))))) (RT t f m lo hi a b x8 x9 x10 x11 x12 x13 x14 x15 x16 x17 x18 x19 x20 x21) dc = .ok (false, dc) := by
  have e1 := beats_eq (dc := dc) T h1 h2 ha0 ha hb0 hb
  have e2 := lbeats_eq (dc := dc) T h1 h2 ha hb
  have n1 := vNe_refl (Sh.qD (btv t lo hi a b)) (by omega)
  simp only [and_ok, and_exn, and_stuck, opt_some, bind_ap, thn_ap, ret_ap, sopt_ap, eP_ap, eVar_ap, eBin_ap, eUn_ap, eChain_ap, chK_t, chK_f, aNil_ap, aCons_ap, eCall_ap, tstV_ap, asB_b, tAnd_ap, tOr_ap, tNot_ap, eAnd_ap, eOr_ap, eNot_ap, eIf_ap, eApp_ap, eAppK_ap, argB_p1, argB_p2, argB_p3, argB_p4, argB_p5, argB_d1, argB_d2, argB_s2, argB_f2, eAll_ap, eComp_ap, itS_ap, itF_ap, frD, tgN_ap, tgT_ap, seq_ap, sNx_ap, sIf_ap, sRet_ap, rtK_some, sSet_ap, setK_some, sFor_ap, unp_ap, unK_2, unK_3, fnK_rt, fnK_nx, fnK_exn, fnM_ap, List.getElem?_cons_zero, List.getElem?_cons_succ, List.map_cons, List.map_nil, List.length_cons, List.length_nil, List.length_map, List.replicate, List.append_nil, List.cons_append, List.nil_append, Option.map_some, Option.map_none, Option.bind_some, Option.bind_none, if_true, if_false, ite_true, ite_false, Bool.false_eq_true, Bool.true_eq_false, reduceCtorEq, isi_t, len_t, len_l, vLe, vLt, vGt, vGe, vAdd, vSub, sq_t, sq_l, wipeR, Val.ice, Val.frz, datas, Bool.not_true, Bool.not_false, setAll, List.set_cons_zero, List.set_cons_succ, List.set_nil, Nat.reduceAdd, Nat.reduceSub, Nat.reduceLeDiff, decide_true, e1, e2, n1]
abbrev bPairs : SS := sSet 10 (eBin vAdd (eVar 10) (eComp (it2 (eVar 11) (eBin vAdd (eBin vAdd (eVar 11) (eCall vLen (aCons (eVar 1) aNil))) (eP (.int 1)))) (tgN 13) [13] (tstV (eBin vEq (eBin vIx (eApp 5 fm__law_beats (aCons (eVar 1) (aCons (eVar 11) (aCons (eVar 13) (aCons (eVar 6) (aCons (eVar 7) aNil)))))) (eP (.int 0))) (eP (.int 0)))) (eTup (aCons (eVar 11) (aCons (eVar 13) aNil)))))
theorem lpairs_eq (T : Tn t) (ha0 : 1 ≤ a) (ha : a ≤ 20) (hb0 : 1 ≤ b) (hb : b ≤ 20) {x8 x9 x14 x15 x16 x17 x18 x19 x20 x21 : Option Val} : ∃ y11, sFor (it1 (eCall vLen (aCons (eVar 1) aNil))) (tgN 11) bPairs (RT t f m lo hi a b x8 x9 (some (.p (.list []))) none none none x14 x15 x16 x17 x18 x19 x20 x21) dc = .ok (.nx, RT t f m lo hi a b x8 x9 (some (.p (.list ((ppA t a b).map qD)))) y11 none none x14 x15 x16 x17 x18 x19 x20 x21, dc) := by
  have hl := T.le
  have L := forD_pre (dc := dc) (tg := tgN 11) (g := fun i : Nat => PyData.int i) (l := List.range t.length) (body := bPairs) (I := fun d ρ => ∃ y11, ρ = RT t f m lo hi a b x8 x9 (some (.p (.list ((d.flatMap (ppL t a b)).map qD)))) y11 none none x14 x15 x16 x17 x18 x19 x20 x21) (fun d x r e ρ ⟨y11, hρ⟩ => by
    subst hρ
    obtain ⟨_, h2, _⟩ := pre_nat (c := 0) e
    have hd : d.length ≤ 12 := by
      have := congrArg List.length e
      rw [List.length_range, List.length_append] at this
      omega
    have hF := ppN_len (t := t) a b d
    have hF2 : (t.length + 1) * d.length ≤ 13 * 12 := Nat.mul_le_mul (by omega) hd
    have hF3 := ppL_len (t := t) a b x
    have ec := compL (it := it2 (eVar 11) (eBin vAdd (eBin vAdd (eVar 11) (eCall vLen (aCons (eVar 1) aNil))) (eP (.int 1)))) (tg := tgN 13) (vs := [13]) (test := tstV (eBin vEq (eBin vIx (eApp 5 fm__law_beats (aCons (eVar 1) (aCons (eVar 11) (aCons (eVar 13) (aCons (eVar 6) (aCons (eVar 7) aNil)))))) (eP (.int 0))) (eP (.int 0)))) (elt := eTup (aCons (eVar 11) (aCons (eVar 13) aNil))) (g := fun i : Nat => PyData.int i) (l := rgN x (t.length + 1)) (t := puB t a b x) (f := fun y => qD (prN x y)) (ρ := RT t f m lo hi a b x8 x9 (some (.p (.list ((d.flatMap (ppL t a b)).map qD)))) (some (.p (.int (x : Nat)))) none none x14 x15 x16 x17 x18 x19 x20 x21) (dc := dc) (by
      refine it2_n (lo := x) (m := t.length + 1) (hi := (x : Int) + (t.length : Int) + 1) (by omega) rfl ?_ (by omega)
      simp only [eBin_ap, eCall_ap, aCons_ap, aNil_ap, eVar_ap, eP_ap, List.getElem?_cons_zero, List.getElem?_cons_succ, and_ok, len_t, List.length_map, opt_some, vAdd]) (by rw [rgN_len]; omega) (fun y hy => ⟨RT t f m lo hi a b x8 x9 (some (.p (.list ((d.flatMap (ppL t a b)).map qD)))) (some (.p (.int (x : Nat)))) none (some (.p (.int (y : Nat)))) x14 x15 x16 x17 x18 x19 x20 x21, rfl, by
      have hy' := rgN_mem hy
      have e2 := lbeats_eq (dc := dc) T (show x ≤ 60 by omega) (show y ≤ 60 by omega) ha hb
      simp only [tstV_ap, eBin_ap, eApp_ap, aCons_ap, aNil_ap, eVar_ap, eP_ap, List.getElem?_cons_zero, List.getElem?_cons_succ, and_ok, argB_p5, e2, ix0_q, opt_some, vEq_int, asB_b]
      rw [pure_iff T (show x ≤ 60 by omega) (show y ≤ 60 by omega) ha0 hb0], fun _ => rfl⟩)
    have em : ((rgN x (t.length + 1)).filter (puB t a b x)).map (fun y => qD (prN x y)) = (ppL t a b x).map qD := by unfold ppL; rw [List.map_map]; rfl
    rw [em] at ec
    have ha' := add_l ((d.flatMap (ppL t a b)).map qD) ((ppL t a b x).map qD) (by rw [List.length_map, List.length_map]; omega)
    refine ⟨RT t f m lo hi a b x8 x9 (some (.p (.list ((d.flatMap (ppL t a b)).map qD)))) (some (.p (.int (x : Nat)))) none none x14 x15 x16 x17 x18 x19 x20 x21, RT t f m lo hi a b x8 x9 (some (.p (.list ((d.flatMap (ppL t a b)).map qD ++ (ppL t a b x).map qD)))) (some (.p (.int (x : Nat)))) none none x14 x15 x16 x17 x18 x19 x20 x21, rfl, (set_go (d := .list ((d.flatMap (ppL t a b)).map qD ++ (ppL t a b x).map qD)) (dc' := dc) ?_).trans rfl, some (.p (.int (x : Nat))), ?_⟩
    · rw [eBin_ap, eVar_ap]
      show ((Res.ok (Val.p (.list ((d.flatMap (ppL t a b)).map qD)), dc)).andThen _) = _
      rw [and_ok, ec, and_ok, ha']
      rfl
    · rw [List.flatMap_append, List.flatMap_cons, List.flatMap_nil, List.append_nil, List.map_append]) (RT t f m lo hi a b x8 x9 (some (.p (.list []))) none none none x14 x15 x16 x17 x18 x19 x20 x21) ⟨none, rfl⟩
  obtain ⟨ρ', e, y11, rfl⟩ := L
  refine ⟨y11, ?_⟩
  have eI : it1 (eCall vLen (aCons (eVar 1) aNil)) (RT t f m lo hi a b x8 x9 (some (.p (.list []))) none none none x14 x15 x16 x17 x18 x19 x20 x21) dc = .ok ((List.range t.length).map (fun i : Nat => PyData.int i), dc) := it1_n (by simp only [and_ok, and_exn, and_stuck, opt_some, bind_ap, thn_ap, ret_ap, sopt_ap, eP_ap, eVar_ap, eBin_ap, eUn_ap, eChain_ap, chK_t, chK_f, aNil_ap, aCons_ap, eCall_ap, tstV_ap, asB_b, tAnd_ap, tOr_ap, tNot_ap, eAnd_ap, eOr_ap, eNot_ap, eIf_ap, eApp_ap, eAppK_ap, argB_p1, argB_p2, argB_p3, argB_p4, argB_p5, argB_d1, argB_d2, argB_s2, argB_f2, eAll_ap, eComp_ap, itS_ap, itF_ap, frD, tgN_ap, tgT_ap, seq_ap, sNx_ap, sIf_ap, sRet_ap, rtK_some, sSet_ap, setK_some, sFor_ap, unp_ap, unK_2, unK_3, fnK_rt, fnK_nx, fnK_exn, fnM_ap, List.getElem?_cons_zero, List.getElem?_cons_succ, List.map_cons, List.map_nil, List.length_cons, List.length_nil, List.length_map, List.replicate, List.append_nil, List.cons_append, List.nil_append, Option.map_some, Option.map_none, Option.bind_some, Option.bind_none, if_true, if_false, ite_true, ite_false, Bool.false_eq_true, Bool.true_eq_false, reduceCtorEq, isi_t, len_t, len_l, vLe, vLt, vGt, vGe, vAdd, vSub, sq_t, sq_l, wipeR, Val.ice, Val.frz, datas, Bool.not_true, Bool.not_false, setAll, List.set_cons_zero, List.set_cons_succ, List.set_nil, Nat.reduceAdd, Nat.reduceSub, Nat.reduceLeDiff, decide_true]) (by omega)
  rw [sFor_ap, eI, and_ok]
  exact e
theorem u4_eq (T : Tn t) (ha0 : 1 ≤ a) (ha : a ≤ 20) (hb0 : 1 ≤ b) (hb : b ≤ 20) {x8 x9 x11 x12 x13 x14 x15 x16 x17 x18 x19 x20 x21 : Option Val} : tstV (eBin vNe (eAppK 3 2 fm_pure_pairs (aCons (eVar 1) (aCons (eVar 6) aNil)) (aCons (eVar 7) aNil)) (eCall vTuple1 (aCons (eVar 10) aNil))) (RT t f m lo hi a b x8 x9 (some (.p (.list ((ppA t a b).map qD)))) x11 x12 x13 x14 x15 x16 x17 x18 x19 x20 x21) dc = .ok (false, dc) := by
  have e1 := pure_eq (dc := dc) T ha0 ha hb0 hb
  have n1 := vNe_refl (.tup (Sh.map Sh.qD) : Sh 2 (.tuple ((ppA t a b).map qD))) (by omega)
  simp only [and_ok, and_exn, and_stuck, opt_some, bind_ap, thn_ap, ret_ap, sopt_ap, eP_ap, eVar_ap, eBin_ap, eUn_ap, eChain_ap, chK_t, chK_f, aNil_ap, aCons_ap, eCall_ap, tstV_ap, asB_b, tAnd_ap, tOr_ap, tNot_ap, eAnd_ap, eOr_ap, eNot_ap, eIf_ap, eApp_ap, eAppK_ap, argB_p1, argB_p2, argB_p3, argB_p4, argB_p5, argB_d1, argB_d2, argB_s2, argB_f2, eAll_ap, eComp_ap, itS_ap, itF_ap, frD, tgN_ap, tgT_ap, seq_ap, sNx_ap, sIf_ap, sRet_ap, rtK_some, sSet_ap, setK_some, sFor_ap, unp_ap, unK_2, unK_3, fnK_rt, fnK_nx, fnK_exn, fnM_ap, List.getElem?_cons_zero, List.getElem?_cons_succ, List.map_cons, List.map_nil, List.length_cons, List.length_nil, List.length_map, List.replicate, List.append_nil, List.cons_append, List.nil_append, Option.map_some, Option.map_none, Option.bind_some, Option.bind_none, if_true, if_false, ite_true, ite_false, Bool.false_eq_true, Bool.true_eq_false, reduceCtorEq, isi_t, len_t, len_l, vLe, vLt, vGt, vGe, vAdd, vSub, sq_t, sq_l, wipeR, Val.ice, Val.frz, datas, Bool.not_true, Bool.not_false, setAll, List.set_cons_zero, List.set_cons_succ, List.set_nil, Nat.reduceAdd, Nat.reduceSub, Nat.reduceLeDiff, decide_true, e1, tup_l, n1]
abbrev bBest : SS := sSeq (sSet 21 (eApp 5 fm__law_beats (aCons (eVar 1) (aCons (eVar 11) (aCons (eVar 13) (aCons (eVar 6) (aCons (eVar 7) aNil)))))))
    (sSet 12 (eIf (tOrD (tstV (eBin vIsN (eVar 12) (eP .none))) (tstV (eBin vLt (eBin vMul (eBin vIx (eVar 21) (eP (.int 0))) (eBin vIx (eBin vIx (eVar 12) (eP (.int 1))) (eP (.int 1)))) (eBin vMul (eBin vIx (eBin vIx (eVar 12) (eP (.int 1))) (eP (.int 0))) (eBin vIx (eVar 21) (eP (.int 1))))))) (eTup (aCons (eVar 13) (aCons (eVar 21) aNil))) (eVar 12)))
theorem lbest_step (T : Tn t) {tn x : Nat} (h1 : tn ≤ 60) (hx : x ≤ 60) (ha : a ≤ 20) (hb : b ≤ 20) {best : Option Nat} (h : BestOk best) {x8 x9 x10 x14 x15 x16 x17 x18 x19 x20 x21 : Option Val} : bBest (RT t f m lo hi a b x8 x9 x10 (some (.p (.int (tn : Nat)))) (some (.p (nrD t tn a b (best)))) (some (.p (.int (x : Nat)))) x14 x15 x16 x17 x18 x19 x20 x21) dc = .ok (.nx, RT t f m lo hi a b x8 x9 x10 (some (.p (.int (tn : Nat)))) (some (.p (nrD t tn a b (nstep t tn a b best x)))) (some (.p (.int (x : Nat)))) x14 x15 x16 x17 x18 x19 x20 (some (.p (qD (btv t tn x a b)))), dc) := by
  have e1 := lbeats_eq (dc := dc) T h1 hx ha hb
  refine seq_go (ρ' := RT t f m lo hi a b x8 x9 x10 (some (.p (.int (tn : Nat)))) (some (.p (nrD t tn a b (best)))) (some (.p (.int (x : Nat)))) x14 x15 x16 x17 x18 x19 x20 (some (.p (qD (btv t tn x a b))))) (dc' := dc) ((set_go (d := qD (btv t tn x a b)) (dc' := dc) (by simp only [and_ok, and_exn, and_stuck, opt_some, bind_ap, thn_ap, ret_ap, sopt_ap, eP_ap, eVar_ap, eBin_ap, eUn_ap, eChain_ap, chK_t, chK_f, aNil_ap, aCons_ap, eCall_ap, tstV_ap, asB_b, tAnd_ap, tOr_ap, tNot_ap, eAnd_ap, eOr_ap, eNot_ap, eIf_ap, eApp_ap, eAppK_ap, argB_p1, argB_p2, argB_p3, argB_p4, argB_p5, argB_d1, argB_d2, argB_s2, argB_f2, eAll_ap, eComp_ap, itS_ap, itF_ap, frD, tgN_ap, tgT_ap, seq_ap, sNx_ap, sIf_ap, sRet_ap, rtK_some, sSet_ap, setK_some, sFor_ap, unp_ap, unK_2, unK_3, fnK_rt, fnK_nx, fnK_exn, fnM_ap, List.getElem?_cons_zero, List.getElem?_cons_succ, List.map_cons, List.map_nil, List.length_cons, List.length_nil, List.length_map, List.replicate, List.append_nil, List.cons_append, List.nil_append, Option.map_some, Option.map_none, Option.bind_some, Option.bind_none, if_true, if_false, ite_true, ite_false, Bool.false_eq_true, Bool.true_eq_false, reduceCtorEq, isi_t, len_t, len_l, vLe, vLt, vGt, vGe, vAdd, vSub, sq_t, sq_l, wipeR, Val.ice, Val.frz, datas, Bool.not_true, Bool.not_false, setAll, List.set_cons_zero, List.set_cons_succ, List.set_nil, Nat.reduceAdd, Nat.reduceSub, Nat.reduceLeDiff, decide_true, e1])).trans rfl) ?_
  cases best with
  | none => rfl
  | some j =>
    have hj := h j rfl
    have B1 := bt_B T h1 hx ha hb
    have B2 := bt_B T h1 hj ha hb
    have i1 : vIx (.p (nrD t tn a b (some j))) (.p (.int 1)) = some (.p (qD (btv t tn j a b))) := by
      unfold nrD
      rw [ix_t, at_1]
      rfl
    have m1 := mul_N (by decide) (by decide) B1.1 B2.2 (by decide)
    have m2 := mul_N (by decide) (by decide) B2.1 B1.2 (by decide)
    have e0 : tstV (eBin vIsN (eVar 12) (eP .none)) (RT t f m lo hi a b x8 x9 x10 (some (.p (.int (tn : Nat)))) (some (.p (nrD t tn a b (some j)))) (some (.p (.int (x : Nat)))) x14 x15 x16 x17 x18 x19 x20 (some (.p (qD (btv t tn x a b))))) dc = .ok (false, dc) := rfl
    have e2 : tstV (eBin vLt (eBin vMul (eBin vIx (eVar 21) (eP (.int 0))) (eBin vIx (eBin vIx (eVar 12) (eP (.int 1))) (eP (.int 1)))) (eBin vMul (eBin vIx (eBin vIx (eVar 12) (eP (.int 1))) (eP (.int 0))) (eBin vIx (eVar 21) (eP (.int 1))))) (RT t f m lo hi a b x8 x9 x10 (some (.p (.int (tn : Nat)))) (some (.p (nrD t tn a b (some j)))) (some (.p (.int (x : Nat)))) x14 x15 x16 x17 x18 x19 x20 (some (.p (qD (btv t tn x a b))))) dc = .ok (ltB (btv t tn x a b) (btv t tn j a b), dc) := by
      simp only [tstV_ap, eBin_ap, eVar_ap, eP_ap, List.getElem?_cons_zero, List.getElem?_cons_succ, and_ok, i1, ix0_q, ix1_q, opt_some, m1, m2, lt_N, asB_b]
      rfl
    unfold nstep
    by_cases z : ltB (btv t tn x a b) (btv t tn j a b) = true
    · simp only [z, if_true]
      refine (set_go (d := nrD t tn a b (some x)) (dc' := dc) ?_).trans rfl
      rw [eIf_ap, tOr_ap, e0, and_ok]
      simp only [Bool.false_eq_true, if_false]
      rw [e2, and_ok, z]
      rfl
    · have z' : ltB (btv t tn x a b) (btv t tn j a b) = false := by simpa using z
      simp only [z', Bool.false_eq_true, if_false]
      refine (set_go (d := nrD t tn a b (some j)) (dc' := dc) ?_).trans rfl
      rw [eIf_ap, tOr_ap, e0, and_ok]
      simp only [Bool.false_eq_true, if_false]
      rw [e2, and_ok, z']
      rfl
theorem lbest_eq (T : Tn t) {tn : Nat} (h1 : tn < t.length) (ha : a ≤ 20) (hb : b ≤ 20) {x8 x9 x10 x14 x15 x16 x17 x18 x19 x20 : Option Val} : ∃ y13 y21, sFor (it2 (eVar 11) (eBin vAdd (eCall vMin2 (aCons (eP (.int 60)) (aCons (eBin vAdd (eVar 11) (eBin vMul (eP (.int 5)) (eCall vLen (aCons (eVar 1) aNil)))) aNil))) (eP (.int 1)))) (tgN 13) bBest (RT t f m lo hi a b x8 x9 x10 (some (.p (.int (tn : Nat)))) (some (.p .none)) none x14 x15 x16 x17 x18 x19 x20 none) dc = .ok (.nx, RT t f m lo hi a b x8 x9 x10 (some (.p (.int (tn : Nat)))) (some (.p (nrD t tn a b ((rgN tn (min 60 (tn + 5 * t.length) + 1 - tn)).foldl (nstep t tn a b) none)))) y13 x14 x15 x16 x17 x18 x19 x20 y21, dc) := by
  have hl := T.le
  have L := forD_pre (dc := dc) (tg := tgN 13) (g := fun i : Nat => PyData.int i) (l := rgN tn (min 60 (tn + 5 * t.length) + 1 - tn)) (body := bBest) (I := fun d ρ => BestOk (d.foldl (nstep t tn a b) none) ∧ ∃ y13 y21, ρ = RT t f m lo hi a b x8 x9 x10 (some (.p (.int (tn : Nat)))) (some (.p (nrD t tn a b (d.foldl (nstep t tn a b) none)))) y13 x14 x15 x16 x17 x18 x19 x20 y21) (fun d x r e ρ ⟨hB, y13, y21, hρ⟩ => by
    subst hρ
    have hx := rgN_mem (show x ∈ rgN tn (min 60 (tn + 5 * t.length) + 1 - tn) by rw [e]; simp)
    have es := lbest_step (dc := dc) (f := f) (m := m) (lo := lo) (hi := hi) T (tn := tn) (x := x) (by omega) (by omega) ha hb hB (x8 := x8) (x9 := x9) (x10 := x10) (x14 := x14) (x15 := x15) (x16 := x16) (x17 := x17) (x18 := x18) (x19 := x19) (x20 := x20) (x21 := y21)
    have ef : (d ++ [x]).foldl (nstep t tn a b) none = nstep t tn a b (d.foldl (nstep t tn a b) none) x := by rw [List.foldl_append]; rfl
    rw [ef]
    exact ⟨_, _, rfl, es, nstep_ok hB (by omega), some (.p (.int (x : Nat))), some (.p (qD (btv t tn x a b))), rfl⟩) (RT t f m lo hi a b x8 x9 x10 (some (.p (.int (tn : Nat)))) (some (.p .none)) none x14 x15 x16 x17 x18 x19 x20 none) ⟨(fun k hk => by cases hk), none, none, rfl⟩
  obtain ⟨ρ', e, _, y13, y21, rfl⟩ := L
  refine ⟨y13, y21, ?_⟩
  have eI : it2 (eVar 11) (eBin vAdd (eCall vMin2 (aCons (eP (.int 60)) (aCons (eBin vAdd (eVar 11) (eBin vMul (eP (.int 5)) (eCall vLen (aCons (eVar 1) aNil)))) aNil))) (eP (.int 1))) (RT t f m lo hi a b x8 x9 x10 (some (.p (.int (tn : Nat)))) (some (.p .none)) none x14 x15 x16 x17 x18 x19 x20 none) dc = .ok ((rgN tn (min 60 (tn + 5 * t.length) + 1 - tn)).map (fun i : Nat => PyData.int i), dc) := by
    have em : vMul (.p (.int 5)) (.p (.int (t.length : Nat))) = some (.p (.int ((5 * t.length : Nat) : Int))) := mul_N (i := 5) (j := t.length) (k := 30) (l := 30) (by decide) (by decide) (bd9 (by decide)) (bd9 (by omega)) (by decide)
    refine it2_n (lo := tn) (m := min 60 (tn + 5 * t.length) + 1 - tn) (hi := (if (tn : Int) + ((5 * t.length : Nat) : Int) < 60 then (tn : Int) + ((5 * t.length : Nat) : Int) else 60) + 1) (by split <;> omega) rfl ?_ (by omega)
    simp only [eBin_ap, eCall_ap, aCons_ap, aNil_ap, eVar_ap, eP_ap, List.getElem?_cons_zero, List.getElem?_cons_succ, and_ok, len_t, List.length_map, opt_some, em, vAdd, vMin2]
  rw [sFor_ap, eI, and_ok]
  exact e
theorem sh_nr (tn a b : Nat) (o : Option Nat) : Sh 2 (nrD t tn a b o) := by
  cases o with
  | none => exact .none 2
  | some j =>
    refine .tup fun d hd => ?_
    rcases List.mem_cons.mp hd with rfl | hd
    · exact .int 1 _
    · rw [List.mem_singleton.mp hd]; exact Sh.qD _
theorem u5_eq (T : Tn t) {tn : Nat} (h1 : tn < t.length) (ha0 : 1 ≤ a) (ha : a ≤ 20) (hb0 : 1 ≤ b) (hb : b ≤ 20) {x8 x9 x10 x13 x14 x15 x16 x17 x18 x19 x20 x21 : Option Val} : tstV (eBin vNe (eAppK 4 3 fm_nearest (aCons (eVar 1) (aCons (eVar 11) (aCons (eVar 6) aNil))) (aCons (eVar 7) aNil)) (eVar 12)) (RT t f m lo hi a b x8 x9 x10 (some (.p (.int (tn : Nat)))) (some (.p (nrD t tn a b ((rgN tn (min 60 (tn + 5 * t.length) + 1 - tn)).foldl (nstep t tn a b) none)))) x13 x14 x15 x16 x17 x18 x19 x20 x21) dc = .ok (false, dc) := by
  have e1 := nearest_eq (dc := dc) T h1 ha0 ha hb0 hb
  have n1 := vNe_refl (sh_nr (t := t) tn a b ((rgN tn (min 60 (tn + 5 * t.length) + 1 - tn)).foldl (nstep t tn a b) none)) (by omega)
  simp only [and_ok, and_exn, and_stuck, opt_some, bind_ap, thn_ap, ret_ap, sopt_ap, eP_ap, eVar_ap, eBin_ap, eUn_ap, eChain_ap, chK_t, chK_f, aNil_ap, aCons_ap, eCall_ap, tstV_ap, asB_b, tAnd_ap, tOr_ap, tNot_ap, eAnd_ap, eOr_ap, eNot_ap, eIf_ap, eApp_ap, eAppK_ap, argB_p1, argB_p2, argB_p3, argB_p4, argB_p5, argB_d1, argB_d2, argB_s2, argB_f2, eAll_ap, eComp_ap, itS_ap, itF_ap, frD, tgN_ap, tgT_ap, seq_ap, sNx_ap, sIf_ap, sRet_ap, rtK_some, sSet_ap, setK_some, sFor_ap, unp_ap, unK_2, unK_3, fnK_rt, fnK_nx, fnK_exn, fnM_ap, List.getElem?_cons_zero, List.getElem?_cons_succ, List.map_cons, List.map_nil, List.length_cons, List.length_nil, List.length_map, List.replicate, List.append_nil, List.cons_append, List.nil_append, Option.map_some, Option.map_none, Option.bind_some, Option.bind_none, if_true, if_false, ite_true, ite_false, Bool.false_eq_true, Bool.true_eq_false, reduceCtorEq, isi_t, len_t, len_l, vLe, vLt, vGt, vGe, vAdd, vSub, sq_t, sq_l, wipeR, Val.ice, Val.frz, datas, Bool.not_true, Bool.not_false, setAll, List.set_cons_zero, List.set_cons_succ, List.set_nil, Nat.reduceAdd, Nat.reduceSub, Nat.reduceLeDiff, decide_true, e1, n1]
theorem u6_eq {cn : Nat} (ha0 : 1 ≤ a) (ha : a ≤ 20) (hb0 : 1 ≤ b) (hb : b ≤ 20) (hn : cn ≤ 12) {x8 x9 x10 x11 x12 x13 x15 x16 x17 x18 x19 x20 x21 : Option Val} : tstV (eBin vNe (eAppK 3 2 fm_comma (aCons (eVar 6) (aCons (eVar 7) aNil)) (aCons (eVar 14) aNil)) (eApp 2 fm__law_folded (aCons (eApp 2 fm__law_power (aCons (eVar 6) (aCons (eVar 14) aNil))) (aCons (eApp 2 fm__law_power (aCons (eVar 7) (aCons (eVar 14) aNil))) aNil)))) (RT t f m lo hi a b x8 x9 x10 x11 x12 x13 (some (.p (.int (cn : Nat)))) x15 x16 x17 x18 x19 x20 x21) dc = .ok (false, dc) := by
  have e1 := comma_eq (dc := dc) ha0 ha hb0 hb hn
  have e2 := lcomma_eq (dc := dc) (ρ := RT t f m lo hi a b x8 x9 x10 x11 x12 x13 (some (.p (.int (cn : Nat)))) x15 x16 x17 x18 x19 x20 x21) (i := 6) (j := 7) (k := 14) rfl rfl rfl ha0 ha hb0 hb hn
  have n1 := vNe_refl (Sh.qD (octF (a ^ cn) (b ^ cn))) (by omega)
  have ea : eAppK 3 2 fm_comma (aCons (eVar 6) (aCons (eVar 7) aNil)) (aCons (eVar 14) aNil) (RT t f m lo hi a b x8 x9 x10 x11 x12 x13 (some (.p (.int (cn : Nat)))) x15 x16 x17 x18 x19 x20 x21) dc = .ok (.p (qD (octF (a ^ cn) (b ^ cn))), dc) := by
    simp only [and_ok, and_exn, and_stuck, opt_some, bind_ap, thn_ap, ret_ap, sopt_ap, eP_ap, eVar_ap, eBin_ap, eUn_ap, eChain_ap, chK_t, chK_f, aNil_ap, aCons_ap, eCall_ap, tstV_ap, asB_b, tAnd_ap, tOr_ap, tNot_ap, eAnd_ap, eOr_ap, eNot_ap, eIf_ap, eApp_ap, eAppK_ap, argB_p1, argB_p2, argB_p3, argB_p4, argB_p5, argB_d1, argB_d2, argB_s2, argB_f2, eAll_ap, eComp_ap, itS_ap, itF_ap, frD, tgN_ap, tgT_ap, seq_ap, sNx_ap, sIf_ap, sRet_ap, rtK_some, sSet_ap, setK_some, sFor_ap, unp_ap, unK_2, unK_3, fnK_rt, fnK_nx, fnK_exn, fnM_ap, List.getElem?_cons_zero, List.getElem?_cons_succ, List.map_cons, List.map_nil, List.length_cons, List.length_nil, List.length_map, List.replicate, List.append_nil, List.cons_append, List.nil_append, Option.map_some, Option.map_none, Option.bind_some, Option.bind_none, if_true, if_false, ite_true, ite_false, Bool.false_eq_true, Bool.true_eq_false, reduceCtorEq, isi_t, len_t, len_l, vLe, vLt, vGt, vGe, vAdd, vSub, sq_t, sq_l, wipeR, Val.ice, Val.frz, datas, Bool.not_true, Bool.not_false, setAll, List.set_cons_zero, List.set_cons_succ, List.set_nil, Nat.reduceAdd, Nat.reduceSub, Nat.reduceLeDiff, decide_true, e1]
  rw [tstV_ap, eBin_ap, ea, and_ok, e2, and_ok, n1]
  rfl
theorem u7_eq (T : Tn t) {tn : Nat} (h1 : tn < t.length) {x8 x9 x10 x12 x13 x14 x16 x17 x18 x19 x20 x21 : Option Val} : tstV (eBin vNe (eAppK 2 1 fm_moved (aCons (eVar 1) aNil) (aCons (eVar 11) aNil)) (eVar 15)) (RT t f m lo hi a b x8 x9 x10 (some (.p (.int (tn : Nat)))) x12 x13 x14 (some (.p (tD (srt (mvL t tn))))) x16 x17 x18 x19 x20 x21) dc = .ok (false, dc) := by
  have e1 := moved_eq (dc := dc) T h1
  have n1 := vNe_refl (.tup (Sh.map Sh.qD) : Sh 2 (tD (srt (mvL t tn)))) (by omega)
  simp only [and_ok, and_exn, and_stuck, opt_some, bind_ap, thn_ap, ret_ap, sopt_ap, eP_ap, eVar_ap, eBin_ap, eUn_ap, eChain_ap, chK_t, chK_f, aNil_ap, aCons_ap, eCall_ap, tstV_ap, asB_b, tAnd_ap, tOr_ap, tNot_ap, eAnd_ap, eOr_ap, eNot_ap, eIf_ap, eApp_ap, eAppK_ap, argB_p1, argB_p2, argB_p3, argB_p4, argB_p5, argB_d1, argB_d2, argB_s2, argB_f2, eAll_ap, eComp_ap, itS_ap, itF_ap, frD, tgN_ap, tgT_ap, seq_ap, sNx_ap, sIf_ap, sRet_ap, rtK_some, sSet_ap, setK_some, sFor_ap, unp_ap, unK_2, unK_3, fnK_rt, fnK_nx, fnK_exn, fnM_ap, List.getElem?_cons_zero, List.getElem?_cons_succ, List.map_cons, List.map_nil, List.length_cons, List.length_nil, List.length_map, List.replicate, List.append_nil, List.cons_append, List.nil_append, Option.map_some, Option.map_none, Option.bind_some, Option.bind_none, if_true, if_false, ite_true, ite_false, Bool.false_eq_true, Bool.true_eq_false, reduceCtorEq, isi_t, len_t, len_l, vLe, vLt, vGt, vGe, vAdd, vSub, sq_t, sq_l, wipeR, Val.ice, Val.frz, datas, Bool.not_true, Bool.not_false, setAll, List.set_cons_zero, List.set_cons_succ, List.set_nil, Nat.reduceAdd, Nat.reduceSub, Nat.reduceLeDiff, decide_true, e1, n1]
theorem s17_eq (T : Tn t) {u : List (Nat × Nat)} {x8 x9 x10 x11 x12 x13 x14 x15 x17 x18 x19 x20 x21 : Option Val} : eComp (it1 (eCall vLen (aCons (eVar 1) aNil))) (tgN 21) [21] (tstV (eBin vEq (eApp 2 fm__law_moved (aCons (eVar 1) (aCons (eVar 21) aNil))) (eVar 16))) (eVar 21) (RT t f m lo hi a b x8 x9 x10 x11 x12 x13 x14 x15 (some (.p (tD u))) x17 x18 x19 x20 x21) dc = .ok (.p (.list (natD ((List.range t.length).filter (smB t u)))), dc) := by
  have hl := T.le
  refine compL (g := fun i : Nat => PyData.int i) (l := List.range t.length) (t := smB t u) (f := fun i : Nat => PyData.int i) (it1_n (by simp only [and_ok, and_exn, and_stuck, opt_some, bind_ap, thn_ap, ret_ap, sopt_ap, eP_ap, eVar_ap, eBin_ap, eUn_ap, eChain_ap, chK_t, chK_f, aNil_ap, aCons_ap, eCall_ap, tstV_ap, asB_b, tAnd_ap, tOr_ap, tNot_ap, eAnd_ap, eOr_ap, eNot_ap, eIf_ap, eApp_ap, eAppK_ap, argB_p1, argB_p2, argB_p3, argB_p4, argB_p5, argB_d1, argB_d2, argB_s2, argB_f2, eAll_ap, eComp_ap, itS_ap, itF_ap, frD, tgN_ap, tgT_ap, seq_ap, sNx_ap, sIf_ap, sRet_ap, rtK_some, sSet_ap, setK_some, sFor_ap, unp_ap, unK_2, unK_3, fnK_rt, fnK_nx, fnK_exn, fnM_ap, List.getElem?_cons_zero, List.getElem?_cons_succ, List.map_cons, List.map_nil, List.length_cons, List.length_nil, List.length_map, List.replicate, List.append_nil, List.cons_append, List.nil_append, Option.map_some, Option.map_none, Option.bind_some, Option.bind_none, if_true, if_false, ite_true, ite_false, Bool.false_eq_true, Bool.true_eq_false, reduceCtorEq, isi_t, len_t, len_l, vLe, vLt, vGt, vGe, vAdd, vSub, sq_t, sq_l, wipeR, Val.ice, Val.frz, datas, Bool.not_true, Bool.not_false, setAll, List.set_cons_zero, List.set_cons_succ, List.set_nil, Nat.reduceAdd, Nat.reduceSub, Nat.reduceLeDiff, decide_true]) (by omega)) (by rw [List.length_range]; omega) (fun x hx => ⟨RT t f m lo hi a b x8 x9 x10 x11 x12 x13 x14 x15 (some (.p (tD u))) x17 x18 x19 x20 (some (.p (.int (x : Nat)))), rfl, ?_, fun _ => rfl⟩)
  have em := lmoved_eq (dc := dc) T (List.mem_range.mp hx)
  simp only [tstV_ap, eBin_ap, eApp_ap, aCons_ap, aNil_ap, eVar_ap, List.getElem?_cons_zero, List.getElem?_cons_succ, and_ok, argB_p2, em, eq_tD, opt_some, asB_b]
  rfl
theorem u8_eq (T : Tn t) {u : List (Nat × Nat)} (U : Tn u) {x8 x9 x10 x11 x12 x13 x14 x15 x18 x19 x20 x21 : Option Val} : tstV (eBin vNe (eAppK 2 1 fm_same_moved (aCons (eVar 1) aNil) (aCons (eVar 16) aNil)) (eBin vIx (eBin vAdd (eVar 17) (eLst (aCons (eP .none) aNil))) (eP (.int 0)))) (RT t f m lo hi a b x8 x9 x10 x11 x12 x13 x14 x15 (some (.p (tD u))) (some (.p (.list (natD ((List.range t.length).filter (smB t u)))))) x18 x19 x20 x21) dc = .ok (false, dc) := by
  have hl := T.le
  have hf := List.length_filter_le (smB t u) (List.range t.length)
  rw [List.length_range] at hf
  have e1 := same_mv_eq (dc := dc) T U
  have ea := add_l (natD ((List.range t.length).filter (smB t u))) [PyData.none] (by rw [List.length_map]; show _ + 1 ≤ _; omega)
  have ei : vIx (.p (.list (natD ((List.range t.length).filter (smB t u)) ++ [PyData.none]))) (.p (.int 0)) = some (.p (headN ((List.range t.length).filter (smB t u)))) := by
    rw [ix_l]
    cases (List.range t.length).filter (smB t u) with
    | nil => rfl
    | cons j r => unfold natD; rw [List.map_cons, List.cons_append, at_0]; rfl
  have n1 : vNe (.p (headN ((List.range t.length).filter (smB t u)))) (.p (headN ((List.range t.length).filter (smB t u)))) = some (.p (.bool false)) := by
    cases (List.range t.length).filter (smB t u) with
    | nil => exact vNe_refl (Sh.none 0) (by omega)
    | cons j r => exact vNe_refl (Sh.int 0 _) (by omega)
  have el : eAppK 2 1 fm_same_moved (aCons (eVar 1) aNil) (aCons (eVar 16) aNil) (RT t f m lo hi a b x8 x9 x10 x11 x12 x13 x14 x15 (some (.p (tD u))) (some (.p (.list (natD ((List.range t.length).filter (smB t u)))))) x18 x19 x20 x21) dc = .ok (.p (headN ((List.range t.length).filter (smB t u))), dc) := by
    simp only [and_ok, and_exn, and_stuck, opt_some, bind_ap, thn_ap, ret_ap, sopt_ap, eP_ap, eVar_ap, eBin_ap, eUn_ap, eChain_ap, chK_t, chK_f, aNil_ap, aCons_ap, eCall_ap, tstV_ap, asB_b, tAnd_ap, tOr_ap, tNot_ap, eAnd_ap, eOr_ap, eNot_ap, eIf_ap, eApp_ap, eAppK_ap, argB_p1, argB_p2, argB_p3, argB_p4, argB_p5, argB_d1, argB_d2, argB_s2, argB_f2, eAll_ap, eComp_ap, itS_ap, itF_ap, frD, tgN_ap, tgT_ap, seq_ap, sNx_ap, sIf_ap, sRet_ap, rtK_some, sSet_ap, setK_some, sFor_ap, unp_ap, unK_2, unK_3, fnK_rt, fnK_nx, fnK_exn, fnM_ap, List.getElem?_cons_zero, List.getElem?_cons_succ, List.map_cons, List.map_nil, List.length_cons, List.length_nil, List.length_map, List.replicate, List.append_nil, List.cons_append, List.nil_append, Option.map_some, Option.map_none, Option.bind_some, Option.bind_none, if_true, if_false, ite_true, ite_false, Bool.false_eq_true, Bool.true_eq_false, reduceCtorEq, isi_t, len_t, len_l, vLe, vLt, vGt, vGe, vAdd, vSub, sq_t, sq_l, wipeR, Val.ice, Val.frz, datas, Bool.not_true, Bool.not_false, setAll, List.set_cons_zero, List.set_cons_succ, List.set_nil, Nat.reduceAdd, Nat.reduceSub, Nat.reduceLeDiff, decide_true, e1]
  have er : eBin vAdd (eVar 17) (eLst (aCons (eP .none) aNil)) (RT t f m lo hi a b x8 x9 x10 x11 x12 x13 x14 x15 (some (.p (tD u))) (some (.p (.list (natD ((List.range t.length).filter (smB t u)))))) x18 x19 x20 x21) dc = .ok (.p (.list (natD ((List.range t.length).filter (smB t u)) ++ [PyData.none])), dc) := by
    rw [eBin_ap]
    show Res.opt dc (vAdd (.p (.list (natD ((List.range t.length).filter (smB t u))))) (.p (.list [PyData.none]))) = _
    rw [ea]
    rfl
  rw [tstV_ap, eBin_ap, el, and_ok, eBin_ap, er, and_ok, eP_ap, and_ok, ei, opt_some, and_ok, n1]
  rfl
end

end K02

set_option maxHeartbeats 4000000
namespace K02
open PySem PySem.Spec PyProof.Rows L2 DL
section
variable {dc : Dc} {t : List (Nat × Nat)} {k : Nat}
abbrev eSecond : SE := eApp 2 fm__law_pick (aCons (eVar 0) (aCons (eLst (aCons (eVar 15) (aCons (eApp 1 fm__law_tuning (aCons (eVar 0) aNil)) aNil))) aNil))
theorem second_ok {ρ : Rho} {u : List (Nat × Nat)} (U : Tn u) (h0 : ρ[0]? = some (some .dice)) (h15 : ρ[15]? = some (some (.p (tD u)))) (h : DcOk k dc) (hk : k ≤ 4000) : ∃ s dc', eSecond ρ dc = .ok (.p (tD s), dc') ∧ Tn s ∧ DcOk (k + 21) dc' := by
  obtain ⟨v, dc1, e1, V, d1⟩ := tuning_ok h (by omega)
  obtain ⟨d, dc2, e2, hd, d2⟩ := pick_ok (ds := [tD u, tD v]) d1 (by omega) (show 1 ≤ 2 by decide) (show 2 ≤ 1000 by decide)
  have w0 : ∀ dc, eVar 0 ρ dc = .ok (.dice, dc) := fun dc => by rw [eVar_ap, h0]
  have w15 : eVar 15 ρ dc = .ok (.p (tD u), dc) := by rw [eVar_ap, h15]
  have eL : eLst (aCons (eVar 15) (aCons (eApp 1 fm__law_tuning (aCons (eVar 0) aNil)) aNil)) ρ dc = .ok (.p (.list [tD u, tD v]), dc1) := by
    unfold eLst
    rw [eCall_ap, aCons_ap, w15, and_ok, aCons_ap, eApp_ap, aCons_ap, w0, and_ok, aNil_ap, and_ok, and_ok, argB_d1, e1]
    rfl
  have ePs : eSecond ρ dc = .ok (.p d, dc2) := by
    unfold eSecond
    rw [eApp_ap, aCons_ap, w0, and_ok, aCons_ap, eL, and_ok, aNil_ap, and_ok, and_ok, and_ok, argB_d2, e2]
  rcases List.mem_cons.mp hd with z | z
  · exact ⟨u, dc2, by rw [ePs, z], U, d2⟩
  · rw [List.mem_singleton] at z
    exact ⟨v, dc2, by rw [ePs, z], V.tn, d2⟩
abbrev eBadT : SE := eApp 2 fm__law_pick (aCons (eVar 0) (aCons (eLst (aCons (eP .none) (aCons (eTup aNil) (aCons (eLst (aCons (eTup (aCons (eP (.int 1)) (aCons (eP (.int 1)) aNil))) aNil)) (aCons (eTup (aCons (eTup (aCons (eP (.int 2)) (aCons (eP (.int 1)) aNil))) aNil)) (aCons (eTup (aCons (eTup (aCons (eP (.int 1)) (aCons (eP (.int 1)) aNil))) (aCons (eTup (aCons (eP (.int 1)) (aCons (eP (.int 1)) aNil))) aNil))) (aCons (eTup (aCons (eTup (aCons (eP (.int 1)) (aCons (eP (.int 1)) aNil))) (aCons (eTup (aCons (eP (.int 2)) (aCons (eP (.int 1)) aNil))) aNil))) (aCons (eTup (aCons (eTup (aCons (eP (.int 1)) (aCons (eP (.int 1)) aNil))) (aCons (eTup (aCons (eP (.int 6)) (aCons (eP (.int 4)) aNil))) aNil))) (aCons (eTup (aCons (eTup (aCons (eP (.int 1)) (aCons (eP (.int 1)) aNil))) (aCons (eTup (aCons (eP (.int 5)) (aCons (eP (.int 3)) aNil))) (aCons (eTup (aCons (eP (.int 3)) (aCons (eP (.int 2)) aNil))) aNil)))) (aCons (eBin vRep (eTup (aCons (eTup (aCons (eP (.int 1)) (aCons (eP (.int 1)) aNil))) aNil)) (eP (.int 13))) aNil)))))))))) aNil))
theorem badT_pick {ρ : Rho} (h0 : ρ[0]? = some (some .dice)) (h : DcOk k dc) (hk : k ≤ 40000) : ∃ (d : PyData) (dc' : Dc), eBadT ρ dc = .ok (.p d, dc') ∧ d ∈ badT ∧ DcOk (k + 1) dc' := by
  obtain ⟨d, dc', e, hd, h2⟩ := pick_ok (ds := badT) h (by omega) (by decide) (by decide)
  refine ⟨d, dc', ?_, hd, h2⟩
  have e0 : eVar 0 ρ dc = .ok (.dice, dc) := by rw [eVar_ap, h0]
  unfold eBadT
  rw [eApp_ap, aCons_ap, e0, and_ok]
  show argB 2 fm__law_pick dc [.dice, .p (.list badT)] = _
  rw [argB_d2, e]
abbrev eToldT : SM (List Val) := (aCons (eTold (eApp 2 fm_by_fifths (aCons (eP (.int 12)) (aCons (eP .none) aNil)))) (aCons (eTold (eApp 2 fm_by_fifths (aCons (eP (.int 0)) (aCons (eP (.int 13)) aNil)))) (aCons (eTold (eApp 3 fm_interval (aCons (eVar 18) (aCons (eP .none) (aCons (eP .none) aNil))))) (aCons (eTold (eApp 3 fm_interval (aCons (eVar 1) (aCons (eP (.int 61)) (aCons (eP .none) aNil))))) (aCons (eTold (eApp 5 fm_beats (aCons (eVar 1) (aCons (eP (.int 0)) (aCons (eP (.int 0)) (aCons (eP (.int 0)) (aCons (eP .none) aNil))))))) (aCons (eTold (eApp 5 fm_beats (aCons (eVar 1) (aCons (eP (.int 0)) (aCons (eP (.int 0)) (aCons (eP (.int 1)) (aCons (eP (.int 21)) aNil))))))) (aCons (eTold (eApp 3 fm_pure_pairs (aCons (eVar 18) (aCons (eP (.int 1)) (aCons (eP (.int 1)) aNil))))) (aCons (eTold (eApp 4 fm_nearest (aCons (eVar 1) (aCons (eCall vLen (aCons (eVar 1) aNil)) (aCons (eP (.int 1)) (aCons (eP (.int 1)) aNil)))))) (aCons (eTold (eApp 3 fm_comma (aCons (eP (.int 1)) (aCons (eP (.int 0)) (aCons (eP (.int 0)) aNil))))) (aCons (eTold (eApp 3 fm_comma (aCons (eP (.int 3)) (aCons (eP (.int 2)) (aCons (eP (.int 13)) aNil))))) (aCons (eTold (eApp 2 fm_moved (aCons (eVar 1) (aCons (eUn vNeg (eP (.int 1))) aNil)))) (aCons (eTold (eApp 2 fm_same_moved (aCons (eVar 1) (aCons (eVar 18) aNil)))) aNil))))))))))))
def dueT : List PyData := [.str "first", .str "many", .str "tuning", .str "low", .str "above", .str "below", .str "tuning", .str "low", .str "below", .str "many", .str "tone", .str "other"]
theorem toldT_eq (T : Tn t) {bd : PyData} (hb : bd ∈ badT) {ρ : Rho} (h1 : (seen ρ)[1]? = some (some (.p (tD t)))) (h18 : (seen ρ)[18]? = some (some (.p bd))) : eToldT ρ dc = .ok (dueT.map .p, dc) := by
  have w1 : eVar 1 (seen ρ) dc = .ok (.p (tD t), dc) := by rw [eVar_ap, h1]
  have w18 : eVar 18 (seen ρ) dc = .ok (.p bd, dc) := by rw [eVar_ap, h18]
  have en : vNeg (.p (.int 1)) = some (.p (.int (-1))) := rfl
  have go : ∀ {f : SE} {s : Str}, f (seen ρ) dc = .exn s → eTold f ρ dc = .ok (.p (.str s), dc) := fun h => told_eq h
  unfold eToldT
  rw [aCons_ap, go (s := "first") (by simp only [eApp_ap, aCons_ap, aNil_ap, eP_ap, w1, w18, and_ok, argB_p2, argB_p3, argB_p4, argB_p5, fifths_first]), and_ok]
  rw [aCons_ap, go (s := "many") (by simp only [eApp_ap, aCons_ap, aNil_ap, eP_ap, w1, w18, and_ok, argB_p2, argB_p3, argB_p4, argB_p5, fifths_many]), and_ok]
  rw [aCons_ap, go (s := "tuning") (by simp only [eApp_ap, aCons_ap, aNil_ap, eP_ap, w1, w18, and_ok, argB_p2, argB_p3, argB_p4, argB_p5, interval_tun hb]), and_ok]
  rw [aCons_ap, go (s := "low") (by simp only [eApp_ap, aCons_ap, aNil_ap, eP_ap, w1, w18, and_ok, argB_p2, argB_p3, argB_p4, argB_p5, interval_low T]), and_ok]
  rw [aCons_ap, go (s := "above") (by simp only [eApp_ap, aCons_ap, aNil_ap, eP_ap, w1, w18, and_ok, argB_p2, argB_p3, argB_p4, argB_p5, beats_above T]), and_ok]
  rw [aCons_ap, go (s := "below") (by simp only [eApp_ap, aCons_ap, aNil_ap, eP_ap, w1, w18, and_ok, argB_p2, argB_p3, argB_p4, argB_p5, beats_below T]), and_ok]
  rw [aCons_ap, go (s := "tuning") (by simp only [eApp_ap, aCons_ap, aNil_ap, eP_ap, w1, w18, and_ok, argB_p2, argB_p3, argB_p4, argB_p5, pure_tun hb]), and_ok]
  rw [aCons_ap, go (s := "low") (by simp only [eApp_ap, aCons_ap, aNil_ap, eP_ap, w1, w18, and_ok, argB_p2, argB_p3, argB_p4, argB_p5, eCall_ap, len_t, List.length_map, opt_some, nearest_low T]), and_ok]
  rw [aCons_ap, go (s := "below") (by simp only [eApp_ap, aCons_ap, aNil_ap, eP_ap, w1, w18, and_ok, argB_p2, argB_p3, argB_p4, argB_p5, comma_below]), and_ok]
  rw [aCons_ap, go (s := "many") (by simp only [eApp_ap, aCons_ap, aNil_ap, eP_ap, w1, w18, and_ok, argB_p2, argB_p3, argB_p4, argB_p5, comma_many]), and_ok]
  rw [aCons_ap, go (s := "tone") (by simp only [eApp_ap, aCons_ap, aNil_ap, eP_ap, w1, w18, and_ok, argB_p2, argB_p3, argB_p4, argB_p5, eUn_ap, en, opt_some, moved_tone T]), and_ok]
  rw [aCons_ap, go (s := "other") (by simp only [eApp_ap, aCons_ap, aNil_ap, eP_ap, w1, w18, and_ok, argB_p2, argB_p3, argB_p4, argB_p5, same_other T hb]), and_ok]
  rfl
theorem right_ok (h : DcOk k dc) (hk : k ≤ 1000) : ∃ dc', fm__law_right [.dice] dc = .ok (.p (.bool true), dc') := by
  obtain ⟨t, dc1, e1, TM, d1⟩ := tuning_ok h (by omega)
  have T := TM.tn
  have hp := T.pos
  have hl := T.le
  obtain ⟨f, dc2, e2, hf, d2⟩ := eroll (ρ := [some .dice, none, none, none, none, none, none, none, none, none, none, none, none, none, none, none, none, none, none, none, none, none]) (m := 12) (mi := 12) rfl rfl d1 (by omega) (by decide) (by decide)
  obtain ⟨m, dc3, e3, m0, m1, d3⟩ := one_roll (ρ := [some .dice, none, none, none, none, none, none, none, none, none, none, none, none, none, none, none, none, none, none, none, none, none]) (m := 12) (mi := 12) (c := 1) (cn := 1) rfl rfl rfl d2 (by omega) (by decide) (by decide)
  obtain ⟨lo, dc4, e4, hlo, d4⟩ := eroll (ρ := [some .dice, some (.p (tD t)), some (.p (.int (f : Nat))), some (.p (.int (m : Nat))), none, none, none, none, none, none, none, none, none, none, none, none, none, none, none, none, none, none]) (m := 20) (mi := 20) rfl rfl d3 (by omega) (by decide) (by decide)
  obtain ⟨hi, dc5, e5, hhi, d5⟩ := eroll (ρ := [some .dice, some (.p (tD t)), some (.p (.int (f : Nat))), some (.p (.int (m : Nat))), none, none, none, none, none, none, none, none, none, none, none, none, none, none, none, none, none, none]) (m := 20) (mi := 20) rfl rfl d4 (by omega) (by decide) (by decide)
  obtain ⟨a, dc6, e6, a0, a1, d6⟩ := one_roll (ρ := [some .dice, some (.p (tD t)), some (.p (.int (f : Nat))), some (.p (.int (m : Nat))), none, none, none, none, none, none, none, none, none, none, none, none, none, none, none, none, none, none]) (m := 8) (mi := 8) (c := 1) (cn := 1) rfl rfl rfl d5 (by omega) (by decide) (by decide)
  obtain ⟨b, dc7, e7, b0, b1, d7⟩ := one_roll (ρ := [some .dice, some (.p (tD t)), some (.p (.int (f : Nat))), some (.p (.int (m : Nat))), none, none, none, none, none, none, none, none, none, none, none, none, none, none, none, none, none, none]) (m := 8) (mi := 8) (c := 1) (cn := 1) rfl rfl rfl d6 (by omega) (by decide) (by decide)
  have h1 : lo ≤ 60 := by omega
  have h2 : hi ≤ 60 := by omega
  have ha : a ≤ 20 := by omega
  have hb : b ≤ 20 := by omega
  obtain ⟨tn, dc8, e8, htn, d8⟩ := roll_ok (m := t.length) d7 (by omega) (by omega) (by omega)
  obtain ⟨y11, ePr⟩ := lpairs_eq (dc := dc7) (f := f) (m := m) (lo := lo) (hi := hi) T a0 ha b0 hb (x8 := (some (.p (qD (sp t lo))))) (x9 := (some (.p (qD (sp t hi))))) (x14 := none) (x15 := none) (x16 := none) (x17 := none) (x18 := none) (x19 := none) (x20 := none) (x21 := none)
  obtain ⟨y13, y21, eB⟩ := lbest_eq (dc := dc8) (f := f) (m := m) (lo := lo) (hi := hi) T htn ha hb (x8 := (some (.p (qD (sp t lo))))) (x9 := (some (.p (qD (sp t hi))))) (x10 := (some (.p (.list ((ppA t a b).map qD))))) (x14 := none) (x15 := none) (x16 := none) (x17 := none) (x18 := none) (x19 := none) (x20 := none)
  obtain ⟨cn, dc9, e9, hcn, d9⟩ := eroll (ρ := RT t f m lo hi a b (some (.p (qD (sp t lo)))) (some (.p (qD (sp t hi)))) (some (.p (.list ((ppA t a b).map qD)))) (some (.p (.int (tn : Nat)))) (some (.p (nrD t tn a b ((rgN tn (min 60 (tn + 5 * t.length) + 1 - tn)).foldl (nstep t tn a b) none)))) y13 none none none none none none none y21) (m := 13) (mi := 13) rfl rfl d8 (by omega) (by decide) (by decide)
  obtain ⟨s, dcA, eA, U, dA⟩ := second_ok (ρ := RT t f m lo hi a b (some (.p (qD (sp t lo)))) (some (.p (qD (sp t hi)))) (some (.p (.list ((ppA t a b).map qD)))) (some (.p (.int (tn : Nat)))) (some (.p (nrD t tn a b ((rgN tn (min 60 (tn + 5 * t.length) + 1 - tn)).foldl (nstep t tn a b) none)))) y13 (some (.p (.int (cn : Nat)))) (some (.p (tD (srt (mvL t tn))))) none none none none none y21) (TM.mv tn htn) rfl rfl d9 (by omega)
  obtain ⟨bd, dcB, eC, hbd, dB⟩ := badT_pick (ρ := RT t f m lo hi a b (some (.p (qD (sp t lo)))) (some (.p (qD (sp t hi)))) (some (.p (.list ((ppA t a b).map qD)))) (some (.p (.int (tn : Nat)))) (some (.p (nrD t tn a b ((rgN tn (min 60 (tn + 5 * t.length) + 1 - tn)).foldl (nstep t tn a b) none)))) y13 (some (.p (.int (cn : Nat)))) (some (.p (tD (srt (mvL t tn))))) (some (.p (tD s))) (some (.p (.list (natD ((List.range t.length).filter (smB t s)))))) none none none y21) rfl dA (by omega)
  refine ⟨dcB, ?_⟩
  have s1 : eTup (aCons (eApp 1 fm__law_tuning (aCons (eVar 0) aNil)) (aCons (eRoll 12) (aCons (eBin vAdd (eP (.int 1)) (eRoll 12)) aNil))) [some .dice, none, none, none, none, none, none, none, none, none, none, none, none, none, none, none, none, none, none, none, none, none] dc = .ok (.p (.tuple [tD t, .int (f : Nat), .int (m : Nat)]), dc3) := by
    have q1 : eApp 1 fm__law_tuning (aCons (eVar 0) aNil) [some .dice, none, none, none, none, none, none, none, none, none, none, none, none, none, none, none, none, none, none, none, none, none] dc = .ok (.p (tD t), dc1) := by
      simp only [eApp_ap, aCons_ap, aNil_ap, eVar_ap, List.getElem?_cons_zero, and_ok, argB_d1, e1]
    unfold eTup
    rw [eCall_ap, aCons_ap, q1, and_ok, aCons_ap, e2, and_ok, aCons_ap, e3]
    rfl
  have u1 : tOrD (tstV (eBin vNe (eAppK 2 1 fm_by_fifths (aCons (eVar 2) aNil) (aCons (eVar 3) aNil)) (eApp 2 fm__law_fifths (aCons (eVar 2) (aCons (eVar 3) aNil))))) (tNotD (tstV (eApp 1 fm_is_tuning (aCons (eVar 1) aNil)))) [some .dice, some (.p (tD t)), some (.p (.int (f : Nat))), some (.p (.int (m : Nat))), none, none, none, none, none, none, none, none, none, none, none, none, none, none, none, none, none, none] dc3 = .ok (false, dc3) := by
    have c1 := by_fifths_eq (dc := dc3) (first := f) (many := m) (by omega) (by omega) (by omega)
    have c2 := lfifths_eq (dc := dc3) (first := f) (many := m) (by omega) (by omega)
    have c3 := is_tuning_ok (dc := dc3) T
    have n1 := vNe_refl (.tup (Sh.map Sh.qD) : Sh 2 (tD (srt (fiL f m)))) (by omega)
    simp only [and_ok, and_exn, and_stuck, opt_some, bind_ap, thn_ap, ret_ap, sopt_ap, eP_ap, eVar_ap, eBin_ap, eUn_ap, eChain_ap, chK_t, chK_f, aNil_ap, aCons_ap, eCall_ap, tstV_ap, asB_b, tAnd_ap, tOr_ap, tNot_ap, eAnd_ap, eOr_ap, eNot_ap, eIf_ap, eApp_ap, eAppK_ap, argB_p1, argB_p2, argB_p3, argB_p4, argB_p5, argB_d1, argB_d2, argB_s2, argB_f2, eAll_ap, eComp_ap, itS_ap, itF_ap, frD, tgN_ap, tgT_ap, seq_ap, sNx_ap, sIf_ap, sRet_ap, rtK_some, sSet_ap, setK_some, sFor_ap, unp_ap, unK_2, unK_3, fnK_rt, fnK_nx, fnK_exn, fnM_ap, List.getElem?_cons_zero, List.getElem?_cons_succ, List.map_cons, List.map_nil, List.length_cons, List.length_nil, List.length_map, List.replicate, List.append_nil, List.cons_append, List.nil_append, Option.map_some, Option.map_none, Option.bind_some, Option.bind_none, if_true, if_false, ite_true, ite_false, Bool.false_eq_true, Bool.true_eq_false, reduceCtorEq, isi_t, len_t, len_l, vLe, vLt, vGt, vGe, vAdd, vSub, sq_t, sq_l, wipeR, Val.ice, Val.frz, datas, Bool.not_true, Bool.not_false, setAll, List.set_cons_zero, List.set_cons_succ, List.set_nil, Nat.reduceAdd, Nat.reduceSub, Nat.reduceLeDiff, decide_true, c1, c2, n1, c3]
  have s2 : eTup (aCons (eRoll 20) (aCons (eRoll 20) (aCons (eBin vAdd (eP (.int 1)) (eRoll 8)) (aCons (eBin vAdd (eP (.int 1)) (eRoll 8)) aNil)))) [some .dice, some (.p (tD t)), some (.p (.int (f : Nat))), some (.p (.int (m : Nat))), none, none, none, none, none, none, none, none, none, none, none, none, none, none, none, none, none, none] dc3 = .ok (.p (.tuple [.int (lo : Nat), .int (hi : Nat), .int (a : Nat), .int (b : Nat)]), dc7) := by
    unfold eTup
    rw [eCall_ap, aCons_ap, e4, and_ok, aCons_ap, e5, and_ok, aCons_ap, e6, and_ok, aCons_ap, e7]
    rfl
  have s3 : sPar 8 9 (aCons (eApp 2 fm__law_speed (aCons (eVar 1) (aCons (eVar 4) aNil))) (aCons (eApp 2 fm__law_speed (aCons (eVar 1) (aCons (eVar 5) aNil))) aNil)) (RT t f m lo hi a b none none none none none none none none none none none none none none) dc7 = .ok (.nx, RT t f m lo hi a b (some (.p (qD (sp t lo)))) (some (.p (qD (sp t hi)))) none none none none none none none none none none none none, dc7) := by
    have c1 := lspeed_eq (dc := dc7) T h1
    have c2 := lspeed_eq (dc := dc7) T h2
    exact (spar_ok (a := qD (sp t lo)) (b := qD (sp t hi)) (dc' := dc7) (by simp only [and_ok, and_exn, and_stuck, opt_some, bind_ap, thn_ap, ret_ap, sopt_ap, eP_ap, eVar_ap, eBin_ap, eUn_ap, eChain_ap, chK_t, chK_f, aNil_ap, aCons_ap, eCall_ap, tstV_ap, asB_b, tAnd_ap, tOr_ap, tNot_ap, eAnd_ap, eOr_ap, eNot_ap, eIf_ap, eApp_ap, eAppK_ap, argB_p1, argB_p2, argB_p3, argB_p4, argB_p5, argB_d1, argB_d2, argB_s2, argB_f2, eAll_ap, eComp_ap, itS_ap, itF_ap, frD, tgN_ap, tgT_ap, seq_ap, sNx_ap, sIf_ap, sRet_ap, rtK_some, sSet_ap, setK_some, sFor_ap, unp_ap, unK_2, unK_3, fnK_rt, fnK_nx, fnK_exn, fnM_ap, List.getElem?_cons_zero, List.getElem?_cons_succ, List.map_cons, List.map_nil, List.length_cons, List.length_nil, List.length_map, List.replicate, List.append_nil, List.cons_append, List.nil_append, Option.map_some, Option.map_none, Option.bind_some, Option.bind_none, if_true, if_false, ite_true, ite_false, Bool.false_eq_true, Bool.true_eq_false, reduceCtorEq, isi_t, len_t, len_l, vLe, vLt, vGt, vGe, vAdd, vSub, sq_t, sq_l, wipeR, Val.ice, Val.frz, datas, Bool.not_true, Bool.not_false, setAll, List.set_cons_zero, List.set_cons_succ, List.set_nil, Nat.reduceAdd, Nat.reduceSub, Nat.reduceLeDiff, decide_true, c1, c2])).trans rfl
  have s6 : eTup (aCons (eApp 2 fm__law_roll (aCons (eVar 0) (aCons (eCall vLen (aCons (eVar 1) aNil)) aNil))) (aCons (eP .none) aNil)) (RT t f m lo hi a b (some (.p (qD (sp t lo)))) (some (.p (qD (sp t hi)))) (some (.p (.list ((ppA t a b).map qD)))) y11 none none none none none none none none none none) dc7 = .ok (.p (.tuple [.int (tn : Nat), .none]), dc8) := by
    have c1 : eApp 2 fm__law_roll (aCons (eVar 0) (aCons (eCall vLen (aCons (eVar 1) aNil)) aNil)) (RT t f m lo hi a b (some (.p (qD (sp t lo)))) (some (.p (qD (sp t hi)))) (some (.p (.list ((ppA t a b).map qD)))) y11 none none none none none none none none none none) dc7 = .ok (.p (.int (tn : Nat)), dc8) := by
      simp only [eApp_ap, aCons_ap, aNil_ap, eCall_ap, eVar_ap, List.getElem?_cons_zero, List.getElem?_cons_succ, and_ok, len_t, List.length_map, opt_some, argB_d2, e8]
    unfold eTup
    rw [eCall_ap, aCons_ap, c1]
    rfl
  have s15 : eApp 2 fm__law_moved (aCons (eVar 1) (aCons (eVar 11) aNil)) (RT t f m lo hi a b (some (.p (qD (sp t lo)))) (some (.p (qD (sp t hi)))) (some (.p (.list ((ppA t a b).map qD)))) (some (.p (.int (tn : Nat)))) (some (.p (nrD t tn a b ((rgN tn (min 60 (tn + 5 * t.length) + 1 - tn)).foldl (nstep t tn a b) none)))) y13 (some (.p (.int (cn : Nat)))) none none none none none none y21) dc9 = .ok (.p (tD (srt (mvL t tn))), dc9) := by
    have c1 := lmoved_eq (dc := dc9) T htn
    simp only [and_ok, and_exn, and_stuck, opt_some, bind_ap, thn_ap, ret_ap, sopt_ap, eP_ap, eVar_ap, eBin_ap, eUn_ap, eChain_ap, chK_t, chK_f, aNil_ap, aCons_ap, eCall_ap, tstV_ap, asB_b, tAnd_ap, tOr_ap, tNot_ap, eAnd_ap, eOr_ap, eNot_ap, eIf_ap, eApp_ap, eAppK_ap, argB_p1, argB_p2, argB_p3, argB_p4, argB_p5, argB_d1, argB_d2, argB_s2, argB_f2, eAll_ap, eComp_ap, itS_ap, itF_ap, frD, tgN_ap, tgT_ap, seq_ap, sNx_ap, sIf_ap, sRet_ap, rtK_some, sSet_ap, setK_some, sFor_ap, unp_ap, unK_2, unK_3, fnK_rt, fnK_nx, fnK_exn, fnM_ap, List.getElem?_cons_zero, List.getElem?_cons_succ, List.map_cons, List.map_nil, List.length_cons, List.length_nil, List.length_map, List.replicate, List.append_nil, List.cons_append, List.nil_append, Option.map_some, Option.map_none, Option.bind_some, Option.bind_none, if_true, if_false, ite_true, ite_false, Bool.false_eq_true, Bool.true_eq_false, reduceCtorEq, isi_t, len_t, len_l, vLe, vLt, vGt, vGe, vAdd, vSub, sq_t, sq_l, wipeR, Val.ice, Val.frz, datas, Bool.not_true, Bool.not_false, setAll, List.set_cons_zero, List.set_cons_succ, List.set_nil, Nat.reduceAdd, Nat.reduceSub, Nat.reduceLeDiff, decide_true, c1]
  have s19 : eLst eToldT (RT t f m lo hi a b (some (.p (qD (sp t lo)))) (some (.p (qD (sp t hi)))) (some (.p (.list ((ppA t a b).map qD)))) (some (.p (.int (tn : Nat)))) (some (.p (nrD t tn a b ((rgN tn (min 60 (tn + 5 * t.length) + 1 - tn)).foldl (nstep t tn a b) none)))) y13 (some (.p (.int (cn : Nat)))) (some (.p (tD (srt (mvL t tn))))) (some (.p (tD s))) (some (.p (.list (natD ((List.range t.length).filter (smB t s)))))) (some (.p bd)) none none y21) dcB = .ok (.p (.list dueT), dcB) := by
    have c1 := toldT_eq (dc := dcB) T hbd (ρ := RT t f m lo hi a b (some (.p (qD (sp t lo)))) (some (.p (qD (sp t hi)))) (some (.p (.list ((ppA t a b).map qD)))) (some (.p (.int (tn : Nat)))) (some (.p (nrD t tn a b ((rgN tn (min 60 (tn + 5 * t.length) + 1 - tn)).foldl (nstep t tn a b) none)))) y13 (some (.p (.int (cn : Nat)))) (some (.p (tD (srt (mvL t tn))))) (some (.p (tD s))) (some (.p (.list (natD ((List.range t.length).filter (smB t s)))))) (some (.p bd)) none none y21) rfl rfl
    exact (eCall_ap _ dcB vLst eToldT).trans ((congrArg (fun r : Res (List Val × Dc) => r.andThen fun p => Res.opt p.2 (vLst p.1)) c1).trans rfl)
  have sV : vEq (.p (.list dueT)) (.p (.list dueT)) = some (.p (.bool true)) := vEq_refl (k := 1) ⟨by decide +kernel, by decide +kernel⟩ (by decide)
  have sB := badT_no hbd dcB
  have sE : sb__law_right [some .dice, none, none, none, none, none, none, none, none, none, none, none, none, none, none, none, none, none, none, none, none, none] dc = .ok (.rt (.p (.bool true)), RT t f m lo hi a b (some (.p (qD (sp t lo)))) (some (.p (qD (sp t hi)))) (some (.p (.list ((ppA t a b).map qD)))) (some (.p (.int (tn : Nat)))) (some (.p (nrD t tn a b ((rgN tn (min 60 (tn + 5 * t.length) + 1 - tn)).foldl (nstep t tn a b) none)))) y13 (some (.p (.int (cn : Nat)))) (some (.p (tD (srt (mvL t tn))))) (some (.p (tD s))) (some (.p (.list (natD ((List.range t.length).filter (smB t s)))))) (some (.p bd)) (some (.p (.list dueT))) (some (.p (.list dueT))) y21, dcB) := by
    refine seq_go (ρ' := [some .dice, some (.p (tD t)), some (.p (.int (f : Nat))), some (.p (.int (m : Nat))), none, none, none, none, none, none, none, none, none, none, none, none, none, none, none, none, none, none]) (dc' := dc3) (unp_go s1 rfl) ?_
    refine seq_go (ρ' := [some .dice, some (.p (tD t)), some (.p (.int (f : Nat))), some (.p (.int (m : Nat))), none, none, none, none, none, none, none, none, none, none, none, none, none, none, none, none, none, none]) (dc' := dc3) (if_no u1) ?_
    refine seq_go (ρ' := RT t f m lo hi a b none none none none none none none none none none none none none none) (dc' := dc7) (unp_go s2 rfl) ?_
    refine seq_go (ρ' := RT t f m lo hi a b (some (.p (qD (sp t lo)))) (some (.p (qD (sp t hi)))) none none none none none none none none none none none none) (dc' := dc7) (s3) ?_
    refine seq_go (ρ' := RT t f m lo hi a b (some (.p (qD (sp t lo)))) (some (.p (qD (sp t hi)))) none none none none none none none none none none none none) (dc' := dc7) (if_no (u2_eq T h1 h2)) ?_
    refine seq_go (ρ' := RT t f m lo hi a b (some (.p (qD (sp t lo)))) (some (.p (qD (sp t hi)))) none none none none none none none none none none none none) (dc' := dc7) (if_no (u3_eq T h1 h2 a0 ha b0 hb)) ?_
    refine seq_go (ρ' := RT t f m lo hi a b (some (.p (qD (sp t lo)))) (some (.p (qD (sp t hi)))) (some (.p (.list []))) none none none none none none none none none none none) (dc' := dc7) (rfl) ?_
    refine seq_go (ρ' := RT t f m lo hi a b (some (.p (qD (sp t lo)))) (some (.p (qD (sp t hi)))) (some (.p (.list ((ppA t a b).map qD)))) y11 none none none none none none none none none none) (dc' := dc7) (ePr) ?_
    refine seq_go (ρ' := RT t f m lo hi a b (some (.p (qD (sp t lo)))) (some (.p (qD (sp t hi)))) (some (.p (.list ((ppA t a b).map qD)))) y11 none none none none none none none none none none) (dc' := dc7) (if_no (u4_eq T a0 ha b0 hb)) ?_
    refine seq_go (ρ' := RT t f m lo hi a b (some (.p (qD (sp t lo)))) (some (.p (qD (sp t hi)))) (some (.p (.list ((ppA t a b).map qD)))) (some (.p (.int (tn : Nat)))) (some (.p .none)) none none none none none none none none none) (dc' := dc8) (unp_go s6 rfl) ?_
    refine seq_go (ρ' := RT t f m lo hi a b (some (.p (qD (sp t lo)))) (some (.p (qD (sp t hi)))) (some (.p (.list ((ppA t a b).map qD)))) (some (.p (.int (tn : Nat)))) (some (.p (nrD t tn a b ((rgN tn (min 60 (tn + 5 * t.length) + 1 - tn)).foldl (nstep t tn a b) none)))) y13 none none none none none none none y21) (dc' := dc8) (eB) ?_
    refine seq_go (ρ' := RT t f m lo hi a b (some (.p (qD (sp t lo)))) (some (.p (qD (sp t hi)))) (some (.p (.list ((ppA t a b).map qD)))) (some (.p (.int (tn : Nat)))) (some (.p (nrD t tn a b ((rgN tn (min 60 (tn + 5 * t.length) + 1 - tn)).foldl (nstep t tn a b) none)))) y13 none none none none none none none y21) (dc' := dc8) (if_no (u5_eq T htn a0 ha b0 hb)) ?_
    refine seq_go (ρ' := RT t f m lo hi a b (some (.p (qD (sp t lo)))) (some (.p (qD (sp t hi)))) (some (.p (.list ((ppA t a b).map qD)))) (some (.p (.int (tn : Nat)))) (some (.p (nrD t tn a b ((rgN tn (min 60 (tn + 5 * t.length) + 1 - tn)).foldl (nstep t tn a b) none)))) y13 (some (.p (.int (cn : Nat)))) none none none none none none y21) (dc' := dc9) ((set_go e9).trans rfl) ?_
    refine seq_go (ρ' := RT t f m lo hi a b (some (.p (qD (sp t lo)))) (some (.p (qD (sp t hi)))) (some (.p (.list ((ppA t a b).map qD)))) (some (.p (.int (tn : Nat)))) (some (.p (nrD t tn a b ((rgN tn (min 60 (tn + 5 * t.length) + 1 - tn)).foldl (nstep t tn a b) none)))) y13 (some (.p (.int (cn : Nat)))) none none none none none none y21) (dc' := dc9) (if_no (u6_eq a0 ha b0 hb (by omega))) ?_
    refine seq_go (ρ' := RT t f m lo hi a b (some (.p (qD (sp t lo)))) (some (.p (qD (sp t hi)))) (some (.p (.list ((ppA t a b).map qD)))) (some (.p (.int (tn : Nat)))) (some (.p (nrD t tn a b ((rgN tn (min 60 (tn + 5 * t.length) + 1 - tn)).foldl (nstep t tn a b) none)))) y13 (some (.p (.int (cn : Nat)))) (some (.p (tD (srt (mvL t tn))))) none none none none none y21) (dc' := dc9) ((set_go s15).trans rfl) ?_
    refine seq_go (ρ' := RT t f m lo hi a b (some (.p (qD (sp t lo)))) (some (.p (qD (sp t hi)))) (some (.p (.list ((ppA t a b).map qD)))) (some (.p (.int (tn : Nat)))) (some (.p (nrD t tn a b ((rgN tn (min 60 (tn + 5 * t.length) + 1 - tn)).foldl (nstep t tn a b) none)))) y13 (some (.p (.int (cn : Nat)))) (some (.p (tD (srt (mvL t tn))))) none none none none none y21) (dc' := dc9) (if_no (u7_eq T htn)) ?_
    refine seq_go (ρ' := RT t f m lo hi a b (some (.p (qD (sp t lo)))) (some (.p (qD (sp t hi)))) (some (.p (.list ((ppA t a b).map qD)))) (some (.p (.int (tn : Nat)))) (some (.p (nrD t tn a b ((rgN tn (min 60 (tn + 5 * t.length) + 1 - tn)).foldl (nstep t tn a b) none)))) y13 (some (.p (.int (cn : Nat)))) (some (.p (tD (srt (mvL t tn))))) (some (.p (tD s))) none none none none y21) (dc' := dcA) ((set_go eA).trans rfl) ?_
    refine seq_go (ρ' := RT t f m lo hi a b (some (.p (qD (sp t lo)))) (some (.p (qD (sp t hi)))) (some (.p (.list ((ppA t a b).map qD)))) (some (.p (.int (tn : Nat)))) (some (.p (nrD t tn a b ((rgN tn (min 60 (tn + 5 * t.length) + 1 - tn)).foldl (nstep t tn a b) none)))) y13 (some (.p (.int (cn : Nat)))) (some (.p (tD (srt (mvL t tn))))) (some (.p (tD s))) (some (.p (.list (natD ((List.range t.length).filter (smB t s)))))) none none none y21) (dc' := dcA) ((set_go (s17_eq T)).trans rfl) ?_
    refine seq_go (ρ' := RT t f m lo hi a b (some (.p (qD (sp t lo)))) (some (.p (qD (sp t hi)))) (some (.p (.list ((ppA t a b).map qD)))) (some (.p (.int (tn : Nat)))) (some (.p (nrD t tn a b ((rgN tn (min 60 (tn + 5 * t.length) + 1 - tn)).foldl (nstep t tn a b) none)))) y13 (some (.p (.int (cn : Nat)))) (some (.p (tD (srt (mvL t tn))))) (some (.p (tD s))) (some (.p (.list (natD ((List.range t.length).filter (smB t s)))))) none none none y21) (dc' := dcA) (if_no (u8_eq T U)) ?_
    refine seq_go (ρ' := RT t f m lo hi a b (some (.p (qD (sp t lo)))) (some (.p (qD (sp t hi)))) (some (.p (.list ((ppA t a b).map qD)))) (some (.p (.int (tn : Nat)))) (some (.p (nrD t tn a b ((rgN tn (min 60 (tn + 5 * t.length) + 1 - tn)).foldl (nstep t tn a b) none)))) y13 (some (.p (.int (cn : Nat)))) (some (.p (tD (srt (mvL t tn))))) (some (.p (tD s))) (some (.p (.list (natD ((List.range t.length).filter (smB t s)))))) (some (.p bd)) none none y21) (dc' := dcB) ((set_go eC).trans rfl) ?_
    refine seq_go (ρ' := RT t f m lo hi a b (some (.p (qD (sp t lo)))) (some (.p (qD (sp t hi)))) (some (.p (.list ((ppA t a b).map qD)))) (some (.p (.int (tn : Nat)))) (some (.p (nrD t tn a b ((rgN tn (min 60 (tn + 5 * t.length) + 1 - tn)).foldl (nstep t tn a b) none)))) y13 (some (.p (.int (cn : Nat)))) (some (.p (tD (srt (mvL t tn))))) (some (.p (tD s))) (some (.p (.list (natD ((List.range t.length).filter (smB t s)))))) (some (.p bd)) (some (.p (.list dueT))) none y21) (dc' := dcB) ((set_go s19).trans rfl) ?_
    refine seq_go (ρ' := RT t f m lo hi a b (some (.p (qD (sp t lo)))) (some (.p (qD (sp t hi)))) (some (.p (.list ((ppA t a b).map qD)))) (some (.p (.int (tn : Nat)))) (some (.p (nrD t tn a b ((rgN tn (min 60 (tn + 5 * t.length) + 1 - tn)).foldl (nstep t tn a b) none)))) y13 (some (.p (.int (cn : Nat)))) (some (.p (tD (srt (mvL t tn))))) (some (.p (tD s))) (some (.p (.list (natD ((List.range t.length).filter (smB t s)))))) (some (.p bd)) (some (.p (.list dueT))) (some (.p (.list dueT))) y21) (dc' := dcB) (rfl) ?_
    refine ret_go ?_
    rw [eAnd_ap, tstV_ap, eBin_ap]
    show (((Res.opt dcB (vEq (.p (.list dueT)) (.p (.list dueT))))).andThen _).andThen _ = _
    rw [sV, opt_some, and_ok, asB_b, and_ok]
    simp only [if_true, eNot_ap, tstV_ap, eApp_ap, aCons_ap, aNil_ap, eVar_ap, List.getElem?_cons_zero, List.getElem?_cons_succ, and_ok, argB_p1, sB, asB_b, Bool.not_false]
  exact fn_go sE
end

end K02

set_option maxHeartbeats 4000000
namespace K02
open PySem PySem.Spec PyProof.Rows L2 DL
section
theorem law_ok {ns : List Int} (hn : ns.length ≤ 63) : ∃ dc dc', fm_law [.scr ns] dc = .ok (.p (.bool true), dc') := by
  refine ⟨(0, 0, 0), (0, 0, 0), ?_⟩
  obtain ⟨m, hm, hm5⟩ : ∃ m : Nat, (if (if ((ns.length : Nat) : Int) < 5 then ((ns.length : Nat) : Int) else 5) > 1 then (if ((ns.length : Nat) : Int) < 5 then ((ns.length : Nat) : Int) else 5) else 1) = (m : Int) ∧ m ≤ 5 := by
    refine ⟨max 1 (min 5 ns.length), ?_, by omega⟩
    split <;> split <;> omega
  have eM : eCall vMax2 (aCons (eP (.int 1)) (aCons (eCall vMin2 (aCons (eP (.int 5)) (aCons (eLenS 0) aNil))) aNil)) [some (.scr ns), none] (0, 0, 0) = .ok (.p (.int (m : Int)), (0, 0, 0)) := by
    have e0 : eLenS 0 [some (.scr ns), none] (0, 0, 0) = .ok (.p (.int ns.length), (0, 0, 0)) := rfl
    simp only [eCall_ap, aCons_ap, aNil_ap, eP_ap, and_ok, e0, vMin2, opt_some, vMax2]
    rw [hm]
  have eI := it1_n eM (show m ≤ 100000 by omega)
  have L := forD_pre (dc := (0, 0, 0)) (tg := tgN 1) (g := fun i : Nat => PyData.int i) (l := List.range m) (body := sIf (tNotD (tstV (eDiced 2 fm__law_right fm__law_dice (aCons (eVar 0) (aCons (eVar 1) aNil))))) (sRet (eP (.bool false))) sNx)
    (I := fun d ρ => ∃ x1, ρ = [some (.scr ns), x1]) (fun d x r e ρ ⟨x1, hρ⟩ => by
      obtain ⟨_, h2, _⟩ := pre_nat (c := 0) e
      subst hρ
      obtain ⟨a, b, e1, b0, b1⟩ := dice_ok (dc := (0, 0, 0)) (i := x) hn (by omega)
      obtain ⟨dc', e2⟩ := right_ok (k := 0) (dc := (a, b, 0)) ⟨b0, b1, Int.le_refl 0, Int.le_refl 0⟩ (by omega)
      have e3 : eDiced 2 fm__law_right fm__law_dice (aCons (eVar 0) (aCons (eVar 1) aNil)) [some (.scr ns), some (.p (.int x))] (0, 0, 0) = .ok (.p (.bool true), (0, 0, 0)) := by
        unfold eDiced
        have ea : aCons (eVar 0) (aCons (eVar 1) aNil) [some (.scr ns), some (.p (.int x))] (0, 0, 0) = .ok ([.scr ns, .p (.int x)], (0, 0, 0)) := rfl
        simp only [ea]
        rw [if_pos (by exact ⟨rfl, rfl⟩)]
        simp only [e1, dice3, e2]
      refine ⟨_, _, rfl, ?_, some (.p (.int x)), rfl⟩
      show sIf _ _ _ [some (.scr ns), some (.p (.int x))] (0, 0, 0) = _
      rw [sIf_ap, tNot_ap, tstV_ap, e3]
      rfl) [some (.scr ns), none] ⟨none, rfl⟩
  obtain ⟨ρ', e, x1, rfl⟩ := L
  unfold fm_law sb_law
  simp only [fnM_ap, List.map_cons, List.map_nil, List.length_cons, List.length_nil, List.replicate, Nat.reduceAdd, Nat.reduceSub, List.cons_append, List.nil_append, seq_ap, sFor_ap, eI, and_ok]
  rw [e]
  rfl
end

end K02

set_option maxHeartbeats 4000000
namespace DL
open PySem PySem.Spec PyProof.Rows L2
/-! ### what the top leaves: read by a Hook of our own (the statics' object beside) -/
abbrev bmVE : List Value := [.type "ValueError", .type "Exception", .type "BaseException", .type "object"]
def eqV (a b : Option Value) : Bool := decide (a = b)
def clsB (K : PySem.W.Frag) (C : Addr) : Bool := match K.lookup C with
  | some ⟨.type t, _, .cls cd, sl⟩ => decide (t = "type") && (decide (cd.mro = .ref C :: bmVE) && (cd.hasDict && (!cd.hasDel && (match sl.toList with
    | [_, _, _, _, some (.builtin n), _] => decide (n = "ValueError.__new__")
    | _ => false))))
  | _ => false
theorem clsB_ok {K : PySem.W.Frag} {C : Addr} (h : clsB K C = true) : ∃ nm q N bs sn sub ab col dd k0 k1 k2 k3 k5, K.lookup C = some (excClassObj nm q C N bs bmVE true sn sub ab col dd k0 k1 k2 k3 k5 "ValueError.__new__") := by
  unfold clsB at h
  split at h
  · rename_i t dd cd sl ho
    rw [Bool.and_eq_true, Bool.and_eq_true, Bool.and_eq_true, Bool.and_eq_true] at h
    obtain ⟨h1, h2, h3, h4, h5⟩ := h
    split at h5
    · rename_i k0 k1 k2 k3 n k5 hs
      obtain ⟨nm, bs, mro, ns, qn, hd, sn, sub, ab, col, del⟩ := cd
      have e1 := of_decide_eq_true h1
      have e2 : mro = .ref C :: bmVE := of_decide_eq_true h2
      have e3 : hd = true := h3
      have e4 : del = false := by simpa using h4
      have e5 := of_decide_eq_true h5
      subst e1 e2 e3 e4 e5
      have hsl : sl = #[k0, k1, k2, k3, some (.builtin "ValueError.__new__"), k5] := by
        obtain ⟨l⟩ := sl
        exact congrArg Array.mk hs
      subst hsl
      exact ⟨nm, qn, ns, bs, sn, sub, ab, col, dd, k0, k1, k2, k3, k5, ho⟩
    · cases h5
  · cases h
/-- the cell that __init__ closes over; the file of its code -/
def initB (K : PySem.W.Frag) (C f : Addr) (file : Str) : Bool := match K.lookup f with
  | some ⟨_, _, .func fd, _⟩ => (match fd.closure, fd.defaults, fd.kwdefaults, fd.code with
    | [(x, cc)], .none, .none, .ref cda => decide (x = "__class__") && (PySem.W.codeIn K (.ref cda) "BadArgument.__init__" && ((match K.lookup cc with
      | some ⟨_, _, .cell (some (.ref c)), _⟩ => decide (c = C)
      | _ => false) && (match K.lookup cda with
      | some ⟨_, _, .fields vs, _⟩ => (match (vs[2]? : Option Value) with
        | some (.str fl _) => file == fl
        | _ => false)
      | _ => false)))
    | _, _, _, _ => false)
  | _ => false
abbrev IniW : Type := Option (Str × Str × Arguments × FuncBody × Scope × Addr × Addr)
def iniW (K : PySem.W.Frag) (f : Addr) : IniW := match K.lookup f with
  | some ⟨_, _, .func fd, _⟩ => some (fd.name, fd.qualname, fd.params, fd.body, fd.scope, fd.globals, fd.builtins)
  | _ => none
def iniV : IniW := some ("__init__", "BadArgument.__init__", PySem.BadX.iA, .stmts PySem.BadX.iB, PySem.BadX.iS, mainGlobals, builtinsNs)
theorem init_ok {K : PySem.W.Frag} {C f : Addr} {file : Str} (h : initB K C f file = true) (e : iniW K f = iniV) :
    ∃ (oc : Value) (od : Option Addr) (doc pm : Value) (an : Option Addr) (cda : Addr) (ct : Value) (cc : Addr) (osl : Array (Option Value)) (cl ccl : Value) (cld cdd : Option Addr) (csl ccs : Array (Option Value)) (vs : Array Value) (fl : Str) (tf : Tok),
    K.lookup f = some ⟨oc, od, .func (PySem.W.ksFn "__init__" "BadArgument.__init__" PySem.BadX.iA PySem.BadX.iB PySem.BadX.iS .none .none doc pm an (.ref cda) ct cc), osl⟩ ∧ PySem.W.codeIn K (.ref cda) "BadArgument.__init__" = true ∧
    K.lookup cc = some ⟨cl, cld, .cell (some (.ref C)), csl⟩ ∧ K.lookup cda = some ⟨ccl, cdd, .fields vs, ccs⟩ ∧ vs[2]? = some (.str fl tf) ∧ (file == fl) = true := by
  unfold initB at h
  unfold iniW at e
  split at h
  · rename_i oc od fd osl ho
    rw [ho] at e
    obtain ⟨n1, n2, n3, n4, n5, n6, n7, n8, n9, n10, n11, n12, n13, n14, n15⟩ := fd
    have e2 : (some (n1, n2, n3, n4, n5, n6, n15) : IniW) = iniV := e
    unfold iniV at e2
    simp only [Option.some.injEq, Prod.mk.injEq] at e2
    obtain ⟨h1, h2, h3, h4, h5, h6, h7⟩ := e2
    subst h1 h2 h3 h4 h5 h6 h7
    split at h
    · rename_i x cc cda e3 e4 e5 e6
      have e3' : n7 = [(x, cc)] := e3
      have e4' : n8 = .none := e4
      have e5' : n9 = .none := e5
      have e6' : n13 = .ref cda := e6
      subst e3' e4' e5' e6'
      rw [Bool.and_eq_true, Bool.and_eq_true, Bool.and_eq_true] at h
      obtain ⟨k1, k2, k3, k4⟩ := h
      have ex := of_decide_eq_true k1
      subst ex
      split at k3
      · rename_i cl cld c csl hcc
        have ec := of_decide_eq_true k3
        subst ec
        split at k4
        · rename_i ccl cdd vs ccs hcd
          split at k4
          · rename_i fl tf hv
            exact ⟨oc, od, n10, n11, n12, cda, n14, cc, osl, cl, ccl, cld, cdd, csl, ccs, vs, fl, tf, ho, k2, hcc, hcd, hv, k4⟩
          · cases k4
        · cases k4
      · cases k3
    · cases h
  · cases h
/-- all that is asked of BadArgument -/
def badB (P : Program) (K : PySem.W.Frag) : Bool :=
  let C := He.ga K "BadArgument"
  let f := He.ma K C "__init__"
  He.eqO (PySem.W.nsIn K mainGlobals "BadArgument") (some (some (.ref C))) && (clsB K C && (He.eqO (PySem.W.nsIn K cStatics "thirdparty.any") (some none) && (He.eqO (PySem.W.findIn K (.ref C) "__setattr__") (some (some (.builtin "object.__setattr__"))) &&
    (He.eqO (PySem.W.findIn K (.ref C) "__getattribute__") (some (some (.builtin "BaseException.__getattribute__"))) && (He.eqO (PySem.W.findIn K (.ref C) "__getattr__") (some none) && (He.eqO (PySem.W.findIn K (.ref C) "name") (some none) &&
    (He.eqO (PySem.W.findIn K (.ref C) "__init__") (some (some (.ref f))) && (eqV (PySem.W.typeIn K (.ref f)) (some (.type "function")) && (PySem.W.keepIn K (.ref C) && (decide (PySem.W.subIn K (.ref C) (.type "BaseException") = some true) &&
    (decide (PySem.W.subIn K (.ref C) (.type "ValueError") = some true) && (eqV (PySem.W.typeIn K (.ref C)) (some (.type "type")) && (PySem.W.hasDictIn K C && (decide (PySem.W.mroIn K C (.ref C) = some true) && (decide (PySem.W.exmOne K (.ref C) (.ref C) = some true) &&
    initB K C f P.main.file)))))))))))))))
theorem badB_ok {P : Program} {K : PySem.W.Frag} {h : Heap} {mg : Str → Option Value} (X : K.In h) (G : h.Ns mainGlobals mg) (hs : mg "super" = none) (ht : (P.main.scope.names.lookup ("super" : Str)).isSome = false) (b : badB P K = true) (e : iniW K (He.ma K (He.ga K "BadArgument") "__init__") = iniV) :
    PySem.BadX.BadTxt P K mg (He.ga K "BadArgument") (He.ma K (He.ga K "BadArgument") "__init__") := by
  unfold badB at b
  simp only [Bool.and_eq_true] at b
  obtain ⟨b1, b2, b3, b4, b5, b6, b7, b8, b9, b10, b11, b12, b13, b14, b15, b16, b17⟩ := b
  exact { gC := PySem.W.mg_of X G (He.eqO_ok b1), sup := hs, cls := clsB_ok b2, opq := He.eqO_ok b3, sa := He.eqO_ok b4, ga := He.eqO_ok b5, gg := He.eqO_ok b6, noN := He.eqO_ok b7, iC := He.eqO_ok b8, tC := of_decide_eq_true b9, kC := b10,
          exC := of_decide_eq_true b11, veC := of_decide_eq_true b12, tyC := of_decide_eq_true b13, hdC := b14, meC := of_decide_eq_true b15, te := of_decide_eq_true b16, top := ht, fn := init_ok b17 e }
abbrev AlB : Type := He.AlD × IniW × Bool
def frB (g : Addr → Option Obj) (n : Nat) : PySem.W.Frag := He.frT g (cStatics :: He.asD g n)
def apartB (K : PySem.W.Frag) (tf tl : List He.Defn) : Bool := tf.all fun p => tl.all fun q => decide ((He.cT K p).2 ≠ (He.cT K q).2)
def obsB (n : Nat) (P : Program) (fa : List He.Fa) (fn : List He.DefD) (tf tl : List He.Defn) (g : Addr → Option Obj) : AlB :=
  (He.obsD fa fn (frB g n), iniW (frB g n) (He.ma (frB g n) (He.ga (frB g n) "BadArgument") "__init__"), badB P (frB g n) && (He.tabsB g (tf ++ tl) (frB g n) && apartB (frB g n) tf tl))
def valB (fn : List He.DefD) : AlB := (He.valD fn, iniV, true)
structure SaysB (P : Program) (fa : List He.Fa) (fn : List He.DefD) (tf tl : List He.Defn) (h : Heap) (K : PySem.W.Frag) : Prop where
  d : He.SaysD fa fn K
  ini : iniW K (He.ma K (He.ga K "BadArgument") "__init__") = iniV
  bad : badB P K = true
  ap : apartB K tf tl = true
  hd : ∀ p ∈ tf ++ tl, PySem.W.codeHdIn K (He.cT K p).1 (He.cT K p).2 = true
  out : ∀ p ∈ tf ++ tl, K.lookup (He.cT K p).2 = none
  empty : ∀ p ∈ tf ++ tl, h.get? (He.cT K p).2 = some { cls := .none, data := .fields #[] }
theorem saysB_of {n : Nat} {P : Program} {fa : List He.Fa} {fn : List He.DefD} {tf tl : List He.Defn} {h : Heap} (e : obsB n P fa fn tf tl h.get? = valB fn) : SaysB P fa fn tf tl h (frB h.get? n) := by
  have e1 : He.obsD fa fn (frB h.get? n) = He.valD fn := congrArg (fun z : AlB => z.1) e
  have e2 := congrArg (fun z : AlB => z.2.1) e
  have e3 : (badB P (frB h.get? n) && (He.tabsB h.get? (tf ++ tl) (frB h.get? n) && apartB (frB h.get? n) tf tl)) = true := congrArg (fun z : AlB => z.2.2) e
  rw [Bool.and_eq_true, Bool.and_eq_true] at e3
  obtain ⟨h1, h2, h3⟩ := e3
  have key : ∀ p ∈ tf ++ tl, PySem.W.codeHdIn (frB h.get? n) (He.cT (frB h.get? n) p).1 (He.cT (frB h.get? n) p).2 = true ∧ ∃ o, h.get? (He.cT (frB h.get? n) p).2 = some o ∧ He.emptyTab o = true := fun p hp => by
    have := List.all_eq_true.mp h2 p hp
    rw [Bool.and_eq_true] at this
    obtain ⟨k3, k4⟩ := this
    refine ⟨k3, ?_⟩
    cases q : h.get? (He.cT (frB h.get? n) p).2 with
    | none => rw [q] at k4; cases k4
    | some o => rw [q] at k4; exact ⟨o, rfl, k4⟩
  exact ⟨e1, e2, h1, h3, fun p hp => (key p hp).1, fun p hp => let ⟨_, o, q, z⟩ := key p hp; He.frT_none q z, fun p hp => by
    obtain ⟨_, o, q, z⟩ := key p hp
    rw [q, He.emptyTab_eq z]⟩
def hookB (n : Nat) (P : Program) (fa : List He.Fa) (fn : List He.DefD) (tf tl : List He.Defn) : PySem.W.Hook where
  α := AlB
  obs := fun s => obsB n P fa fn tf tl s.heap.get?
  val := fun _ => valB fn
  says := fun _ h => ∃ K : PySem.W.Frag, K.In h ∧ SaysB P fa fn tf tl h K
  of := fun _ _ e => ⟨_, He.frT_in, saysB_of e⟩
  keeps := fun _ _ _ ⟨K, hK, c⟩ k => ⟨K, PySem.W.Frag.In.keeps hK k, ⟨c.d, c.ini, c.bad, c.ap, c.hd, c.out, fun p hp => k _ _ (c.empty p hp)⟩⟩
theorem obsB_eq {n : Nat} {P : Program} {fa : List He.Fa} {fn : List He.DefD} {tf tl : List He.Defn} {g : Addr → Option Obj} {s : Shared} (h : ∀ a, g a = s.heap.get? a) : obsB n P fa fn tf tl g = (hookB n P fa fn tf tl).obs s := by
  have e : g = s.heap.get? := funext h
  rw [e]
  rfl
end DL

set_option maxHeartbeats 4000000
namespace DL
open PySem PySem.Spec PyProof.Rows L2
def mkG (K : PySem.W.Frag) (tf : List He.Defn) (tl : List (He.Defn × Str)) : Cg := ⟨K, tf.map (fun p => ((He.cT K p).2, none)) ++ tl.map (fun p => ((He.cT K p.1).2, some p.2)), He.ga K "BadArgument"⟩
def csOf (K : PySem.W.Frag) (tf : List He.Defn) (tl : List (He.Defn × Str)) : List (Addr × Addr) := (tf ++ tl.map (·.1)).map (He.cT K)
abbrev dd (x : Str) (st : Stmt) : He.DefD := ⟨(x, none), x, x, defArgs st, defBody st, defScope st, [], []⟩
section
variable {P : Program} {K : PySem.W.Frag} {h h2 base : Heap} {mg : Str → Option Value} {fa : List He.Fa} {fn : List He.DefD} {tf : List He.Defn} {tl : List (He.Defn × Str)} {H : Hp} {x : Str} {st : Stmt}
theorem mkG_tb (hH : ∀ p ∈ csOf K tf tl, H p.2 = some (.tbl #[])) : Tb (mkG K tf tl).T H := by
  intro p hp
  rcases List.mem_append.mp hp with hp | hp
  · obtain ⟨q, hq, rfl⟩ := List.mem_map.mp hp
    refine ⟨#[], hH (He.cT K q) (List.mem_map.mpr ⟨q, List.mem_append_left _ hq, rfl⟩), ?_⟩
    first | trivial | (intro z hz; cases hz) | rfl | (show TriplesOk [] ; unfold TriplesOk; trivial)
  · obtain ⟨q, hq, rfl⟩ := List.mem_map.mp hp
    refine ⟨#[], hH (He.cT K q.1) (List.mem_map.mpr ⟨q.1, List.mem_append_right _ (List.mem_map.mpr ⟨q, hq, rfl⟩), rfl⟩), ?_, fun pos cv e => ?_⟩
    · first | trivial | (intro z hz; cases hz) | rfl | (show TriplesOk [] ; unfold TriplesOk; trivial)
    · cases e
theorem funD_of (X : K.In h) (G : h.Ns mainGlobals mg) (c : He.SaysD fa fn K) (i j : Nat) (hi : fn[i]? = some (dd x st) := by rfl) (hj : fa[j]? = some (.glo x) := by rfl) : FunD K mg x st := by
  obtain ⟨fd, F⟩ := c.def_ i hi
  obtain ⟨oc, od, dV, kV, doc, pm, an, cdv, ct, osl, rfl, l, hc, dv, kw⟩ := F.ex
  have ed : dV = .none := by
    rcases dv with ⟨_, e⟩ | ⟨e, _⟩
    · exact e
    · exact absurd rfl e
  subst ed
  exact ⟨_, oc, od, kV, doc, pm, an, cdv, ct, osl, He.glo_ok X G (c.fact j hj), F.kp, l, hc⟩
theorem funT_at {g : Cg} {q : Option Str} {TB : LamX.TabB base mg (He.cT K (x, none)).1 (He.cT K (x, none)).2} (F : FunD K mg x st) (e : mg x = some (.ref (He.ga K x))) (hm : (((He.cT K (x, none)).2, q) : Addr × Option Str) ∈ g.T) (hu : ∀ p ∈ g.T, p.1 = (He.cT K (x, none)).2 → p.2 = q) :
    ∃ c P0, FunT g K mg base x st q c P0 := by
  obtain ⟨f, oc, od, kV, doc, pm, an, cdv, ct, osl, h1, h2, h3, h4⟩ := F.ex
  rw [e] at h1
  cases h1
  obtain ⟨c, rfl⟩ := He.codeIn_ref h4
  have ec : (He.cT K (x, none)).1 = c := He.codeOf_eq (p := (x, none)) h3 rfl
  refine ⟨(He.cT K (x, none)).1, (He.cT K (x, none)).2, ⟨_, oc, od, kV, doc, pm, an, ct, osl, e, h2, ?_, ?_⟩, TB.code, TB.bm, TB.gP, hm, hu⟩
  · rw [ec]; exact h3
  · rw [ec]; exact h4
theorem ap_ne (c : SaysB P fa fn tf (tl.map (·.1)) h K) {p : He.Defn} {q : He.Defn × Str} (hp : p ∈ tf) (hq : q ∈ tl) : (He.cT K p).2 ≠ (He.cT K q.1).2 := by
  have h1 := List.all_eq_true.mp c.ap p hp
  have h2 := List.all_eq_true.mp h1 q.1 (List.mem_map.mpr ⟨q, hq, rfl⟩)
  exact of_decide_eq_true h2
theorem funT_gen (X : K.In h) (G : h.Ns mainGlobals mg) (c : SaysB P fa fn tf (tl.map (·.1)) h2 K) (TB : ∀ p ∈ csOf K tf tl, LamX.TabB base mg p.1 p.2) (F : FunD K mg x st) (j : Nat) (hp : ((x, none) : He.Defn) ∈ tf) (hj : fa[j]? = some (.glo x) := by rfl) :
    ∃ c P0, FunT (mkG K tf tl) K mg base x st none c P0 := by
  refine funT_at (TB := TB _ (List.mem_map.mpr ⟨_, List.mem_append_left _ hp, rfl⟩)) F (He.glo_ok X G (c.d.fact j hj)) (List.mem_append_left _ (List.mem_map.mpr ⟨_, hp, rfl⟩)) fun p hp' e => ?_
  rcases List.mem_append.mp hp' with z | z
  · obtain ⟨q, _, rfl⟩ := List.mem_map.mp z
    rfl
  · obtain ⟨q, hq, rfl⟩ := List.mem_map.mp z
    exact absurd e.symm (ap_ne c hp hq)
theorem funT_lam {q : Str} (X : K.In h) (G : h.Ns mainGlobals mg) (c : SaysB P fa fn tf [(x, none)] h2 K) (TB : ∀ p ∈ csOf K tf [((x, none), q)], LamX.TabB base mg p.1 p.2) (F : FunD K mg x st) (j : Nat) (hj : fa[j]? = some (.glo x) := by rfl) :
    ∃ c P0, FunT (mkG K tf [((x, none), q)]) K mg base x st (some q) c P0 := by
  refine funT_at (TB := TB _ (List.mem_map.mpr ⟨_, List.mem_append_right _ List.mem_cons_self, rfl⟩)) F (He.glo_ok X G (c.d.fact j hj)) (List.mem_append_right _ List.mem_cons_self) fun p hp' e => ?_
  rcases List.mem_append.mp hp' with z | z
  · obtain ⟨r, hr, rfl⟩ := List.mem_map.mp z
    exact absurd e (ap_ne (tl := [((x, none), q)]) c hr List.mem_cons_self)
  · rcases List.mem_cons.mp z with rfl | z
    · rfl
    · cases z
theorem funR_of {K : PySem.W.Frag} {mg : Str → Option Value} {st : Stmt} (F : FunD K mg "_law_refused" st) (hs : ∃ pe pa pc ph pn pr pt p1 p2 p3 p4 p5 p6 j, defBody st = tellB pe pa pc ph pn pr pt p1 p2 p3 p4 p5 p6 j) (hc : defScope st = tellS)
    (hb : ∀ (kV doc pm : Value) (an : Option Addr) (cdv ct : Value) (us : List Value), us.length = 1 → bindArgs (PySem.W.fnOf "_law_refused" "_law_refused" (defArgs st) (defBody st) (defScope st) .none kV doc pm an cdv ct) ⟨us, []⟩ = pure ((["call"] : List Str).zip us)) : FunR K mg := by
  obtain ⟨f, oc, od, kV, doc, pm, an, cdv, ct, osl, h1, h2, h3, h4⟩ := F.ex
  obtain ⟨pe, pa, pc, ph, pn, pr, pt, p1, p2, p3, p4, p5, p6, j, e⟩ := hs
  have hb' := fun us hl => hb kV doc pm an cdv ct us hl
  rw [e, hc] at h3 hb'
  exact ⟨f, oc, od, defArgs st, pe, pa, pc, ph, pn, pr, pt, p1, p2, p3, p4, p5, p6, j, kV, doc, pm, an, cdv, ct, osl, h1, h2, h3, h4, L2.Binds.all fun us hl => hb' us hl⟩
end
end DL

set_option maxHeartbeats 0
/-! ### k02: the head, printed by gen.py -/
namespace K02
open PySem PySem.Spec PyProof.Rows L2 DL
def fn : List He.DefD := [dd "_law_roll" (top 31), dd "_law_sorted" (top 38), dd "_law_gcd" (top 34), dd "_law_frac" (top 35), dd "_law_folded" (top 37), dd "_law_moved" (top 43), dd "_law_pick" (top 32), dd "_law_power" (top 36), dd "_law_fifths" (top 39), dd "_law_tuning" (top 40), dd "_law_speed" (top 41), dd "is_less" (top 8), dd "common" (top 5), dd "ratio" (top 6), dd "is_integer" (top 3), dd "is_fraction" (top 10), dd "is_tuning" (top 15), dd "need_tuning" (top 16), dd "need_integer" (top 4), dd "power" (top 19), dd "speed" (top 21), dd "interval" (top 22), dd "size" (top 9), dd "plus" (top 7), dd "beats" (top 23), dd "_law_beats" (top 42), dd "pure_pairs" (top 24), dd "nearest" (top 25), dd "in_octave" (top 17), dd "comma" (top 26), dd "in_order" (top 20), dd "moved" (top 27), dd "same_moved" (top 28), dd "by_fifths" (top 18), dd "_law_right" (top 44), dd "_law_dice" (top 30), dd "law" (top 45), dd "_law_refused" (top 33)]
def fa : List He.Fa := ([.glo "_law_roll", .glo "_law_sorted", .glo "_law_gcd", .glo "_law_frac", .glo "_law_folded", .glo "_law_moved", .glo "_law_pick", .glo "_law_power", .glo "_law_fifths", .glo "_law_tuning", .glo "_law_speed", .glo "is_less", .glo "common", .glo "ratio", .glo "is_integer", .glo "is_fraction", .glo "is_tuning", .glo "need_tuning", .glo "need_integer", .glo "power", .glo "speed", .glo "interval", .glo "size", .glo "plus", .glo "beats", .glo "_law_beats", .glo "pure_pairs", .glo "nearest", .glo "in_octave", .glo "comma"] : List He.Fa) ++ ([.glo "in_order", .glo "moved", .glo "same_moved", .glo "by_fifths", .glo "_law_right", .glo "_law_dice", .glo "law", .glo "_law_refused", .free "abs", .free "all", .free "bool", .free "int", .free "isinstance", .free "len", .free "max", .free "min", .free "range", .free "set", .free "sorted", .free "tuple", .free "super", .int "MOST_ABOVE" 1000000000, .int "MOST_STEP" 60, .int "MOST_TONES" 12] : List He.Fa)
def tf : List He.Defn := [("is_fraction", none), ("is_tuning", none)]
def tl : List (He.Defn × Str) := [(("_law_right", none), "_law_right.<locals>." ++ "<lambda>")]
abbrev Pr : Program := PySem.Challenge.pw_organranks_k02_whole_tunings
abbrev Rw : PySem.W.OpenRow := PySem.W.OpenLaw.row PySem.Challenge.rw_organranks_k02_whole_tunings
abbrev hk : PySem.W.Hook := hookB 5 Pr fa fn tf (tl.map (·.1))
def ob (s : PySem.W.SharedT) : AlB := obsB 5 Pr fa fn tf (tl.map (·.1)) (HandSHeadRun.getT s)
theorem ob_eq (s : PySem.W.SharedT) : ob s = hk.obs s.abs := obsB_eq (HandSHeadRun.getT_eq s)
def loose : List Str := (["BadArgument", "is_integer", "need_integer", "common", "ratio", "plus", "is_less", "size", "is_fraction", "MOST_TONES", "MOST_ABOVE", "MOST_STEP", "is_tuning", "need_tuning", "in_octave", "by_fifths", "power", "in_order", "speed", "interval", "beats", "pure_pairs", "nearest", "comma", "moved", "same_moved", "_law_dice", "_law_roll", "_law_pick", "_law_refused"] : List Str) ++ (["_law_gcd", "_law_frac", "_law_power", "_law_folded", "_law_sorted", "_law_fifths", "_law_tuning", "_law_speed", "_law_beats", "_law_moved", "_law_right"] : List Str)
theorem run (w : World) : HandSHeadRun.RunEq Rw (PySem.W.view Rw.prog [45]) hk ob 3000 loose w := by
  intro os
  kernel_rfl
theorem txt {w : World} {K : PySem.W.Frag} {h h2 base : Heap} {mg : Str → Option Value} (X : K.In h) (G : h.Ns mainGlobals mg) (c : SaysB Pr fa fn tf (tl.map (·.1)) h2 K) (TB : ∀ p ∈ csOf K tf tl, LamX.TabB base mg p.1 p.2) : Txt (mkG K tf tl) Pr w K mg base (He.ma K (He.ga K "BadArgument") "__init__") where
  hK := rfl
  bad := badB_ok X G (He.free_ok X G (c.d.fact 50 (f := .free "super") rfl)) (by kernel_rfl) c.bad c.ini
  refused := funR_of (funD_of (x := "_law_refused") (st := top 33) X G c.d 37 37 rfl rfl) ⟨_, _, ⟨0, 0, 0, 0⟩, _, ⟨0, 0, 0, 0⟩, _, _, _, _, _, _, _, _, _, by rfl⟩ (by rfl) (fun _ _ _ _ _ _ us hl => match us, hl with | [_], _ => rfl)
  b_abs := He.free_ok X G (c.d.fact 38 (f := .free "abs") rfl)
  b_all := He.free_ok X G (c.d.fact 39 (f := .free "all") rfl)
  b_bool := He.free_ok X G (c.d.fact 40 (f := .free "bool") rfl)
  b_int := He.free_ok X G (c.d.fact 41 (f := .free "int") rfl)
  b_isinstance := He.free_ok X G (c.d.fact 42 (f := .free "isinstance") rfl)
  b_len := He.free_ok X G (c.d.fact 43 (f := .free "len") rfl)
  b_max := He.free_ok X G (c.d.fact 44 (f := .free "max") rfl)
  b_min := He.free_ok X G (c.d.fact 45 (f := .free "min") rfl)
  b_range := He.free_ok X G (c.d.fact 46 (f := .free "range") rfl)
  b_set := He.free_ok X G (c.d.fact 47 (f := .free "set") rfl)
  b_sorted := He.free_ok X G (c.d.fact 48 (f := .free "sorted") rfl)
  b_tuple := He.free_ok X G (c.d.fact 49 (f := .free "tuple") rfl)
  c_MOST_ABOVE := He.int_ok X G (c.d.fact 51 (f := .int "MOST_ABOVE" 1000000000) rfl)
  c_MOST_STEP := He.int_ok X G (c.d.fact 52 (f := .int "MOST_STEP" 60) rfl)
  c_MOST_TONES := He.int_ok X G (c.d.fact 53 (f := .int "MOST_TONES" 12) rfl)
  f__law_roll := (funD_of (x := "_law_roll") (st := top 31) X G c.d 0 0 rfl rfl)
  f__law_sorted := (funD_of (x := "_law_sorted") (st := top 38) X G c.d 1 1 rfl rfl)
  f__law_gcd := (funD_of (x := "_law_gcd") (st := top 34) X G c.d 2 2 rfl rfl)
  f__law_frac := (funD_of (x := "_law_frac") (st := top 35) X G c.d 3 3 rfl rfl)
  f__law_folded := (funD_of (x := "_law_folded") (st := top 37) X G c.d 4 4 rfl rfl)
  f__law_moved := (funD_of (x := "_law_moved") (st := top 43) X G c.d 5 5 rfl rfl)
  f__law_pick := (funD_of (x := "_law_pick") (st := top 32) X G c.d 6 6 rfl rfl)
  f__law_power := (funD_of (x := "_law_power") (st := top 36) X G c.d 7 7 rfl rfl)
  f__law_fifths := (funD_of (x := "_law_fifths") (st := top 39) X G c.d 8 8 rfl rfl)
  f__law_tuning := (funD_of (x := "_law_tuning") (st := top 40) X G c.d 9 9 rfl rfl)
  f__law_speed := (funD_of (x := "_law_speed") (st := top 41) X G c.d 10 10 rfl rfl)
  f_is_less := (funD_of (x := "is_less") (st := top 8) X G c.d 11 11 rfl rfl)
  f_common := (funD_of (x := "common") (st := top 5) X G c.d 12 12 rfl rfl)
  f_ratio := (funD_of (x := "ratio") (st := top 6) X G c.d 13 13 rfl rfl)
  f_is_integer := (funD_of (x := "is_integer") (st := top 3) X G c.d 14 14 rfl rfl)
  t_is_fraction := funT_gen (tl := tl) X G c TB (funD_of (x := "is_fraction") (st := top 10) X G c.d 15 15 rfl rfl) 15 (by unfold tf; simp) rfl
  t_is_tuning := funT_gen (tl := tl) X G c TB (funD_of (x := "is_tuning") (st := top 15) X G c.d 16 16 rfl rfl) 16 (by unfold tf; simp) rfl
  f_need_tuning := (funD_of (x := "need_tuning") (st := top 16) X G c.d 17 17 rfl rfl)
  f_need_integer := (funD_of (x := "need_integer") (st := top 4) X G c.d 18 18 rfl rfl)
  f_power := (funD_of (x := "power") (st := top 19) X G c.d 19 19 rfl rfl)
  f_speed := (funD_of (x := "speed") (st := top 21) X G c.d 20 20 rfl rfl)
  f_interval := (funD_of (x := "interval") (st := top 22) X G c.d 21 21 rfl rfl)
  f_size := (funD_of (x := "size") (st := top 9) X G c.d 22 22 rfl rfl)
  f_plus := (funD_of (x := "plus") (st := top 7) X G c.d 23 23 rfl rfl)
  f_beats := (funD_of (x := "beats") (st := top 23) X G c.d 24 24 rfl rfl)
  f__law_beats := (funD_of (x := "_law_beats") (st := top 42) X G c.d 25 25 rfl rfl)
  f_pure_pairs := (funD_of (x := "pure_pairs") (st := top 24) X G c.d 26 26 rfl rfl)
  f_nearest := (funD_of (x := "nearest") (st := top 25) X G c.d 27 27 rfl rfl)
  f_in_octave := (funD_of (x := "in_octave") (st := top 17) X G c.d 28 28 rfl rfl)
  f_comma := (funD_of (x := "comma") (st := top 26) X G c.d 29 29 rfl rfl)
  f_in_order := (funD_of (x := "in_order") (st := top 20) X G c.d 30 30 rfl rfl)
  f_moved := (funD_of (x := "moved") (st := top 27) X G c.d 31 31 rfl rfl)
  f_same_moved := (funD_of (x := "same_moved") (st := top 28) X G c.d 32 32 rfl rfl)
  f_by_fifths := (funD_of (x := "by_fifths") (st := top 18) X G c.d 33 33 rfl rfl)
  t__law_right := funT_lam (tf := tf) X G c TB (funD_of (x := "_law_right") (st := top 44) X G c.d 34 34 rfl rfl) 34 rfl
  f__law_dice := (funD_of (x := "_law_dice") (st := top 30) X G c.d 35 35 rfl rfl)
  f_law := (funD_of (x := "law") (st := top 45) X G c.d 36 36 rfl rfl)
theorem lawAt {w : World} {K : PySem.W.Frag} {h : Heap} {mg : Str → Option Value} {f : Addr} (m : ∀ ns : List Int, ns.length ≤ 63 → (∀ z ∈ ns, Builtin.Int.intBits z ≤ 1048576) → ∃ dc dc', fm_law [.scr ns] dc = .ok (.p (.bool true), dc')) (X : K.In h) (G : h.Ns mainGlobals mg) (hfa : mg ("law" : Str) = some (.ref f)) (c : SaysB Pr fa fn tf (tl.map (·.1)) h K) :
    LamX.LawAtS PySem.Challenge.rw_organranks_k02_whole_tunings w K (L2.CX Pr w) 12 63 "script" mg f h := by
  obtain ⟨f2, oc, od, kV, doc, pm, an, cdv, ct, osl, h1, h2, h3, h4⟩ := (funD_of (x := "law") (st := top 45) X G c.d 36 36 rfl rfl).ex
  have e := hfa.symm.trans h1
  cases e
  have tabs : ∀ p ∈ csOf K tf tl, ∃ q, q ∈ tf ++ tl.map (·.1) ∧ p = He.cT K q := fun p hp => let ⟨q, hq, e⟩ := List.mem_map.mp hp; ⟨q, hq, e.symm⟩
  refine ⟨_, csOf K tf tl, spD0 (mkG K tf tl) 1 fm_law, fun p hp => ?_, fun p hp => ?_, fun p hp => ?_, fun s u => .of_eq rfl, fun H a ns hl hb hH hS => law_sp (mkG_tb hH) hS (m ns hl hb), fun base X2 G2 TB => ok_law (txt X2 G2 c TB) h3 h4⟩
  · obtain ⟨q, hq, rfl⟩ := tabs p hp; exact c.empty q hq
  · obtain ⟨q, hq, rfl⟩ := tabs p hp; exact c.out q hq
  · obtain ⟨q, hq, rfl⟩ := tabs p hp; exact PySem.W.codeHd_of_K X (c.hd q hq)
end K02
open PySem PySem.W PySem.Calls PyProof.Rows
theorem K02.holds (m : ∀ ns : List Int, ns.length ≤ 63 → (∀ z ∈ ns, Builtin.Int.intBits z ≤ 1048576) → ∃ dc dc', K02.fm_law [.scr ns] dc = .ok (.p (.bool true), dc')) : PySem.Challenge.rw_organranks_k02_whole_tunings.Holds := by
  w_on; o_law
  refine HandSHeadRun.head_any (r := OpenLaw.row PySem.Challenge.rw_organranks_k02_whole_tunings) (q := view (OpenLaw.row PySem.Challenge.rw_organranks_k02_whole_tunings).prog [45]) (H := K02.hk) (ob := K02.ob) (M := 3000) (loose := K02.loose) (d := HandSHeadRun.topDef (OpenLaw.row PySem.Challenge.rw_organranks_k02_whole_tunings).prog 45) (kwd := []) K02.ob_eq
    (by kernel_rfl) (fun s => by kernel_rfl) K02.run (by kernel_rfl) (by kernel_rfl) (by kernel_rfl) (by rfl) (by first | assumption | decide +kernel) (by decide +kernel) ⟨rfl, rfl, rfl, rfl, rfl, by decide +kernel⟩ ?hw ?hc
  case hw => w_witness2
  case hc =>
    refine LamX.walk_ofTsE (l := PySem.Challenge.rw_organranks_k02_whole_tunings) (n := 63) (k := 12) (x := "script") (CX := fun w => L2.CX K02.Pr w) rfl (by decide) (by kernel_rfl) ⟨rfl, by decide, by decide⟩ ?F ?C
    case F =>
      intro w mg fa h Y G hmg0
      obtain ⟨K, KX, c⟩ := Y
      have hmg : mg ("law" : PySem.Str) = some (.ref fa) := by
        have e : (HandSHeadRun.topDef (OpenLaw.row PySem.Challenge.rw_organranks_k02_whole_tunings).prog 45).name = ("law" : PySem.Str) := by kernel_rfl
        rw [← e]
        exact hmg0
      exact ⟨K, KX, K02.lawAt m KX G hmg c⟩
    case C =>
      intro w H s e s2 z
      obtain ⟨_, _, _, _, _, _, _, _, _, _, _, _, z⟩ := z
      exact z
theorem PySem.Challenge.cw_organranks_k02_whole_tunings_holds : PySem.Challenge.rw_organranks_k02_whole_tunings.Holds := by
  exact K02.holds fun ns hl _ => K02.law_ok hl
