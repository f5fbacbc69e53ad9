import PyProof.Rows.All
import Wide.All
import OpenK.AllK
import Wide.FinOn
import KE.SortData
import KE.DataMinMax
import KE.DataEq
import KE.DataIsa
import KE.DataCmp
import HandS.ForMost
import HandS.Star
import HandS.AnyAll
import HandS.TupAny
import HandS.IsInst
import HandS.Conv
import HandS.Deep
import HandS.Defaults
import KE.SortLaws
import HandS.Style
import HandS.Iter
import HandS.Zip
import KE.GoesMore
import KE.GoesEnum
import KE.GoesZip
import HandS.GenList
import HandS.SetFor
import HandS.Strs
import HandS.Dict
import KE.KStateDown
import HandS.Base
import HandS.Call
import HandS.Ends
import HandS.More
import HandS.Words
import HandS.WordsExc
import HandS.Head0
import HandS.Head1
import HandS.Head2
import HandS.HeadEnd
import HandS.HeadHook1
import HandS.HeadHook2
import HandS.HeadHook3
import HandS.HeadHook4
import HandS.HeadWalk
import PySem.Challenge.RW_groupdeeds_k15_whole_likings
set_option Elab.async false
set_option linter.all false
set_option maxRecDepth 100000
set_option maxHeartbeats 0
/-! Dl1: data over the hand layer: worlds, slots, readings by plain functions. -/
namespace DL
open PySem PySem.Spec PyProof.Rows L2

/-! ### values that stand for data -/
mutual
inductive Rp (G : Hp) : V → PyData → Prop
  | non : Rp G .non .none
  | bl (b : Bool) : Rp G (.bl b) (.bool b)
  | int (i : Int) : Rp G (.int i) (.int i)
  | str (x : Str) : Rp G (.str x) (.str x)
  | lst {a : Addr} {xs : List V} {ds : List PyData} : G a = some (.lst xs) → RpAll G xs ds → Rp G (.ref a) (.list ds)
  | tup {a : Addr} {xs : List V} {ds : List PyData} : G a = some (.tup xs) → RpAll G xs ds → Rp G (.ref a) (.tuple ds)
inductive RpAll (G : Hp) : List V → List PyData → Prop
  | nil : RpAll G [] []
  | cons {v : V} {vs : List V} {d : PyData} {ds : List PyData} : Rp G v d → RpAll G vs ds → RpAll G (v :: vs) (d :: ds)
end
def Gle (G G' : Hp) : Prop := ∀ b o, G b = some o → G' b = some o
theorem Gle.refl (G : Hp) : Gle G G := fun _ _ h => h
theorem Gle.trans {G G1 G2 : Hp} (a : Gle G G1) (b : Gle G1 G2) : Gle G G2 := fun c o h => b c o (a c o h)
theorem Gle.upd {G : Hp} {p : Addr} {o : HO} (h : G p = none) : Gle G (upd G p o) := fun b u e => by rw [upd_ne (ne_of_none e h)]; exact e
mutual
theorem Rp.mono {G G' : Hp} (k : Gle G G') : ∀ {v : V} {d : PyData}, Rp G v d → Rp G' v d
  | _, _, .non => .non
  | _, _, .bl b => .bl b
  | _, _, .int i => .int i
  | _, _, .str x => .str x
  | _, _, .lst h r => .lst (k _ _ h) (RpAll.mono k r)
  | _, _, .tup h r => .tup (k _ _ h) (RpAll.mono k r)
theorem RpAll.mono {G G' : Hp} (k : Gle G G') : ∀ {vs : List V} {ds : List PyData}, RpAll G vs ds → RpAll G' vs ds
  | _, _, .nil => .nil
  | _, _, .cons a b => .cons (Rp.mono k a) (RpAll.mono k b)
end
mutual
theorem Rp.dp {K : PySem.W.Frag} {G H : Hp} (k : Gle G H) : ∀ {v : V} {d : PyData}, Rp G v d → Dp K H v d
  | _, _, .non => .non
  | _, _, .bl b => .bl b
  | _, _, .int i => .int i
  | _, _, .str x => .str x
  | _, _, .lst h r => .lst (SqL.of (k _ _ h)) (RpAll.dp k r)
  | _, _, .tup h r => .tup (SqT.of (k _ _ h)) (RpAll.dp k r)
theorem RpAll.dp {K : PySem.W.Frag} {G H : Hp} (k : Gle G H) : ∀ {vs : List V} {ds : List PyData}, RpAll G vs ds → DpAll K H vs ds
  | _, _, .nil => .nil
  | _, _, .cons a b => .cons (Rp.dp k a) (RpAll.dp k b)
end
mutual
theorem Rp.plain {G : Hp} : ∀ {v : V} {d : PyData}, Rp G v d → d.plain = true
  | _, _, .non => rfl
  | _, _, .bl b => rfl
  | _, _, .int i => rfl
  | _, _, .str x => rfl
  | _, _, .lst h r => RpAll.plain r
  | _, _, .tup h r => RpAll.plain r
theorem RpAll.plain {G : Hp} : ∀ {vs : List V} {ds : List PyData}, RpAll G vs ds → PyData.plainAll ds = true
  | _, _, .nil => rfl
  | _, _, .cons a b => by
    simp only [PyData.plainAll, Rp.plain a, RpAll.plain b, Bool.and_self]
end
theorem RpAll.length {G : Hp} : ∀ {vs : List V} {ds : List PyData}, RpAll G vs ds → vs.length = ds.length
  | _, _, .nil => rfl
  | _, _, .cons a b => congrArg Nat.succ (RpAll.length b)
theorem RpAll.append {G : Hp} : ∀ {vs ws : List V} {ds es : List PyData}, RpAll G vs ds → RpAll G ws es → RpAll G (vs ++ ws) (ds ++ es)
  | _, _, _, _, .nil, s => s
  | _, _, _, _, .cons a b, s => .cons a (RpAll.append b s)
theorem RpAll.get {G : Hp} : ∀ {vs : List V} {ds : List PyData} {i : Nat} {d : PyData}, RpAll G vs ds → ds[i]? = some d → ∃ v, vs[i]? = some v ∧ Rp G v d
  | _, _, 0, _, .cons a b, h => ⟨_, rfl, by cases h; exact a⟩
  | _, _, i + 1, _, .cons a b, h => RpAll.get (i := i) b h
theorem RpAll.take {G : Hp} : ∀ {vs : List V} {ds : List PyData} (n : Nat), RpAll G vs ds → RpAll G (vs.take n) (ds.take n)
  | _, _, 0, _ => .nil
  | _, _, _ + 1, .nil => .nil
  | _, _, n + 1, .cons a b => .cons a (RpAll.take n b)
theorem RpAll.drop {G : Hp} : ∀ {vs : List V} {ds : List PyData} (n : Nat), RpAll G vs ds → RpAll G (vs.drop n) (ds.drop n)
  | _, _, 0, r => r
  | _, _, _ + 1, .nil => .nil
  | _, _, n + 1, .cons _ b => RpAll.drop n b
theorem RpAll.set {G : Hp} {v : V} {d : PyData} (r : Rp G v d) : ∀ {vs : List V} {ds : List PyData} (n : Nat), RpAll G vs ds → RpAll G (vs.set n v) (ds.set n d)
  | _, _, _, .nil => .nil
  | _, _, 0, .cons _ b => .cons r b
  | _, _, n + 1, .cons a b => .cons a (RpAll.set r n b)
theorem RpAll.ints {G : Hp} : ∀ ns : List Int, RpAll G (ns.map V.int) (ns.map PyData.int)
  | [] => .nil
  | n :: r => .cons (.int n) (RpAll.ints r)
theorem RpAll.ints_inv {G : Hp} : ∀ {vs : List V} {ns : List Int}, RpAll G vs (ns.map PyData.int) → vs = ns.map V.int
  | _, [], h => by
    have h' : RpAll G _ [] := h
    cases h'
    rfl
  | _, n :: r, h => by
    have h' : RpAll G _ (PyData.int n :: r.map PyData.int) := h
    cases h' with
    | cons a b =>
      cases a
      rw [RpAll.ints_inv b]
      rfl

/-! ### worlds: the frozen part G of the heap H; the code tables stand at cs -/
abbrev Cs := List (Addr × Addr)
def Tab (cs : Cs) (b : Addr) : Prop := ∃ p ∈ cs, p.2 = b
structure Wd (cs : Cs) (G H : Hp) : Prop where
  sub : Gle G H
  tab : ∀ b, Tab cs b → GxR.TabG H b
  out : ∀ b, Tab cs b → G b = none
structure Ext (cs : Cs) (G H G' H' : Hp) : Prop where
  wd : Wd cs G' H'
  keep : ∀ b o, H b = some o → ¬ Tab cs b → H' b = some o
  old : Gle G G'
  new : ∀ b, G b = none → H b ≠ none → G' b = none
section
variable {cs : Cs} {G H G' H' G2 H2 : Hp} {p : Addr} {o : HO}
theorem Wd.some_tab (w : Wd cs G H) {b : Addr} (h : Tab cs b) : ∃ ps, H b = some (.tbl ps) := let ⟨ps, e, _⟩ := w.tab b h; ⟨ps, e⟩
theorem Wd.notTab_none (w : Wd cs G H) (h : H p = none) : ¬ Tab cs p := fun t => by
  obtain ⟨ps, e⟩ := w.some_tab t
  rw [h] at e
  cases e
theorem Wd.notTab_of (w : Wd cs G H) (h : H p = some o) (ho : ∀ ps, o ≠ .tbl ps) : ¬ Tab cs p := fun t => by
  obtain ⟨ps, e⟩ := w.some_tab t
  rw [h] at e
  exact ho ps (Option.some.inj e)
theorem Wd.free (w : Wd cs G H) (h : H p = none) : G p = none := by
  cases q : G p with
  | none => rfl
  | some u => rw [w.sub _ _ q] at h; cases h
theorem Ext.refl (w : Wd cs G H) : Ext cs G H G H := ⟨w, fun _ _ h _ => h, Gle.refl _, fun _ h _ => h⟩
theorem Ext.trans (a : Ext cs G H G' H') (b : Ext cs G' H' G2 H2) : Ext cs G H G2 H2 where
  wd := b.wd
  keep := fun c o h t => b.keep c o (a.keep c o h t) t
  old := a.old.trans b.old
  new := fun c h n => by
    by_cases t : Tab cs c
    · exact b.wd.out c t
    · refine b.new c (a.new c h n) ?_
      obtain ⟨u, e⟩ := Option.ne_none_iff_exists'.mp n
      rw [a.keep c u e t]
      exact Option.some_ne_none _
/-- a new object, frozen -/
theorem Ext.laid (w : Wd cs G H) (h : H p = none) : Ext cs G H (upd G p o) (upd H p o) := by
  have nt := w.notTab_none h
  refine ⟨⟨fun b u e => ?_, fun b t => ?_, fun b t => ?_⟩, fun b u e _ => ?_, Gle.upd (w.free h), fun b e n => ?_⟩
  · by_cases hb : b = p
    · subst hb; rw [upd_same] at e ⊢; exact e
    · rw [upd_ne hb] at e ⊢; exact w.sub _ _ e
  · have hb : b ≠ p := fun e => nt (e ▸ t)
    obtain ⟨ps, e, q⟩ := w.tab b t
    exact ⟨ps, by rw [upd_ne hb]; exact e, q⟩
  · have hb : b ≠ p := fun e => nt (e ▸ t)
    rw [upd_ne hb]
    exact w.out b t
  · rw [upd_ne (ne_of_none e h)]; exact e
  · have hb : b ≠ p := fun z => n (z ▸ h)
    rw [upd_ne hb]; exact e
/-- a new object, not frozen -/
theorem Ext.laidOwn (w : Wd cs G H) (h : H p = none) : Ext cs G H G (upd H p o) := by
  have nt := w.notTab_none h
  refine ⟨⟨fun b u e => ?_, fun b t => ?_, w.out⟩, fun b u e _ => ?_, Gle.refl _, fun b e n => e⟩
  · have q := w.sub _ _ e
    rw [upd_ne (ne_of_none q h)]; exact q
  · have hb : b ≠ p := fun e => nt (e ▸ t)
    obtain ⟨ps, e, q⟩ := w.tab b t
    exact ⟨ps, by rw [upd_ne hb]; exact e, q⟩
  · rw [upd_ne (ne_of_none e h)]; exact e
end

/-! ### slots -/
inductive Slot where
  | no
  | dat (d : PyData)
  | own (xs : List PyData)
  | ownD (kvs : List (Int × PyData))
abbrev SE := List Slot
abbrev kvV (p : Int × V) : Key × V := (Sum.inl p.1, p.2)
/-- the pairs of an own dict -/
inductive DRel (G : Hp) : List (Key × V) → List (Int × PyData) → Prop
  | nil : DRel G [] []
  | cons {k : Int} {v : V} {d : PyData} {ws : List (Key × V)} {kvs : List (Int × PyData)} : Rp G v d → DRel G ws kvs → DRel G ((Sum.inl k, v) :: ws) ((k, d) :: kvs)
def SlotR (H0 G H : Hp) (v : Option (Option V)) : Slot → Prop
  | .no => True
  | .dat d => ∃ x, v = some (some x) ∧ Rp G x d
  | .own xs => ∃ a vs, v = some (some (V.ref a)) ∧ H0 a = none ∧ G a = none ∧ H a = some (.lst vs) ∧ RpAll G vs xs
  | .ownD kvs => ∃ a ws, v = some (some (V.ref a)) ∧ H0 a = none ∧ G a = none ∧ H a = some (.dK ws) ∧ DRel G ws kvs
def isOwn : Slot → Bool
  | .own _ => true
  | .ownD _ => true
  | _ => false
structure EnvR (H0 G H : Hp) (σ : L2.St) (env : SE) : Prop where
  len : σ.length = env.length
  at_ : ∀ (i : Nat) (s : Slot), env[i]? = some s → SlotR H0 G H σ[i]? s
  dis : ∀ (i j : Nat) (s t : Slot) (a : Addr), i ≠ j → env[i]? = some s → isOwn s = true → env[j]? = some t → isOwn t = true → σ[i]? = some (some (V.ref a)) → σ[j]? = some (some (V.ref a)) → False
section
variable {cs : Cs} {H0 G H G' H' : Hp} {σ : L2.St} {env : SE}
theorem DRel.mono (k : Gle G G') : ∀ {ws : List (Key × V)} {kvs : List (Int × PyData)}, DRel G ws kvs → DRel G' ws kvs
  | _, _, .nil => .nil
  | _, _, .cons r t => .cons (r.mono k) (DRel.mono k t)
theorem SlotR.ext {v : Option (Option V)} (w : Wd cs G H) (x : Ext cs G H G' H') : ∀ {s : Slot}, SlotR H0 G H v s → SlotR H0 G' H' v s
  | .no, _ => trivial
  | .dat d, ⟨y, e, r⟩ => ⟨y, e, r.mono x.old⟩
  | .own xs, ⟨a, vs, e, h0, g, h, r⟩ => ⟨a, vs, e, h0, x.new a g (by rw [h]; exact Option.some_ne_none _), x.keep a _ h (w.notTab_of h fun ps z => by cases z), r.mono x.old⟩
  | .ownD kvs, ⟨a, ws, e, h0, g, h, r⟩ => ⟨a, ws, e, h0, x.new a g (by rw [h]; exact Option.some_ne_none _), x.keep a _ h (w.notTab_of h fun ps z => by cases z), r.mono x.old⟩
theorem EnvR.ext (r : EnvR H0 G H σ env) (w : Wd cs G H) (x : Ext cs G H G' H') : EnvR H0 G' H' σ env :=
  ⟨r.len, fun i s e => (r.at_ i s e).ext w x, r.dis⟩
/-- a slot is set to what is no own list -/
theorem EnvR.set {i : Nat} {x : Option V} {s : Slot} (r : EnvR H0 G H σ env) (ns : isOwn s = false) (h : SlotR H0 G H (some x) s) : EnvR H0 G H (σ.set i x) (env.set i s) where
  len := by rw [List.length_set, List.length_set]; exact r.len
  at_ := fun j t e => by
    by_cases hj : i = j
    · subst hj
      have hi : i < env.length := by
        have := (List.getElem?_eq_some_iff.mp e).1
        rwa [List.length_set] at this
      rw [List.getElem?_set_self hi] at e
      cases e
      rw [List.getElem?_set_self (by rw [r.len]; exact hi)]
      exact h
    · rw [List.getElem?_set_ne hj] at e ⊢
      exact r.at_ j t e
  dis := fun j k t u a ne e1 o1 e2 o2 f1 f2 => by
    have hj : i ≠ j := fun z => by
      subst z
      have hi : i < env.length := by
        have := (List.getElem?_eq_some_iff.mp e1).1
        rwa [List.length_set] at this
      rw [List.getElem?_set_self hi] at e1
      cases e1
      rw [ns] at o1
      cases o1
    have hk : i ≠ k := fun z => by
      subst z
      have hi : i < env.length := by
        have := (List.getElem?_eq_some_iff.mp e2).1
        rwa [List.length_set] at this
      rw [List.getElem?_set_self hi] at e2
      cases e2
      rw [ns] at o2
      cases o2
    rw [List.getElem?_set_ne hj] at e1 f1
    rw [List.getElem?_set_ne hk] at e2 f2
    exact r.dis j k t u a ne e1 o1 e2 o2 f1 f2
end

/-! ### readings -/
def tD (cs : Cs) (f : SE → Option PyData) : TE := fun σ H Q => ∃ H0 G env d, Wd cs G H ∧ EnvR H0 G H σ env ∧ f env = some d ∧ ∀ G' H' v, Ext cs G H G' H' → Rp G' v d → Q v H'
def tDT (cs : Cs) (f : SE → Option Bool) : TT := fun σ H Q => ∃ H0 G env b, Wd cs G H ∧ EnvR H0 G H σ env ∧ f env = some b ∧ ∀ G' H', Ext cs G H G' H' → Q b H'
def tDA (cs : Cs) (f : SE → Option (List PyData)) : TA := fun σ H Q => ∃ H0 G env ds, Wd cs G H ∧ EnvR H0 G H σ env ∧ f env = some ds ∧ ∀ G' H' vs, Ext cs G H G' H' → RpAll G' vs ds → Q vs H'
theorem PE.imp {X : Cx} {e : Expr} {t t' : TE} (h : PE X e t) (w : ∀ σ H Q, t' σ H Q → t σ H Q) : PE X e t' := ⟨fun pins s σ H Q I q => h.run pins s σ H Q I (w σ H Q q)⟩
theorem PT.imp {X : Cx} {e : Expr} {t t' : TT} (h : PT X e t) (w : ∀ σ H Q, t' σ H Q → t σ H Q) : PT X e t' := ⟨fun pins s σ H Q I q => h.run pins s σ H Q I (w σ H Q q)⟩
theorem PW.imp {X : Cx} {e : Expr} {t t' : TT} (h : PW X e t) (w : ∀ σ H Q, t' σ H Q → t σ H Q) : PW X e t' := ⟨fun wh pins s σ H Q I q => h.run wh pins s σ H Q I (w σ H Q q)⟩
theorem PA.imp {X : Cx} {es : List Expr} {t t' : TA} (h : PA X es t) (w : ∀ σ H Q, t' σ H Q → t σ H Q) : PA X es t' := ⟨fun pos pins s σ H Q I q => h.run pos pins s σ H Q I (w σ H Q q)⟩
theorem PS.imp {X : Cx} {st : Stmt} {t t' : TS} (h : PS X st t) (w : ∀ D σ H, t' D σ H → t D σ H) : PS X st t' := ⟨fun pins s σ H D I q => h.run pins s σ H D I (w D σ H q)⟩
theorem PSs.imp {X : Cx} {st : List Stmt} {t t' : TS} (h : PSs X st t) (w : ∀ D σ H, t' D σ H → t D σ H) : PSs X st t' := ⟨fun pins s σ H D I q => h.run pins s σ H D I (w D σ H q)⟩
theorem PI.imp {X : Cx} {tg it : Expr} {t t' : TI} (h : PI X tg it t) (w : ∀ σ H Q, t' σ H Q → t σ H Q) : PI X tg it t' := ⟨fun pins s σ H R I q => h.run pins s σ H R I (w σ H R q)⟩
theorem PG.imp {X : Cx} {tg : Expr} {t t' : TG} (h : PG X tg t) (w : ∀ v σ H Q, t' v σ H Q → t v σ H Q) : PG X tg t' := ⟨fun pins s σ H v u Q I r q => h.run pins s σ H v u Q I r (w v σ H Q q)⟩
theorem PTs.imp {X : Cx} {es : List Expr} {t t' : TT} (h : PTs X es t) (w : ∀ σ H Q, t' σ H Q → t σ H Q) : PTs X es t' := ⟨fun pins s σ H Q I q => h.run pins s σ H Q I (w σ H Q q)⟩

/-! ### names and constants -/
abbrev Fe := SE → Option PyData
def fVar (i : Nat) : Fe := fun env => match env[i]? with
  | some (.dat d) => some d
  | _ => none
def fC (d : PyData) : Fe := fun _ => some d
section
variable {X : Cx} {cs : Cs} {pos : Pos}
theorem tD_var {i : Nat} {σ : L2.St} {H : Hp} {Q : VK} (h : tD cs (fVar i) σ H Q) : tVar i σ H Q := by
  obtain ⟨H0, G, env, d, w, r, e, k⟩ := h
  unfold fVar at e
  cases q : env[i]? with
  | none => rw [q] at e; cases e
  | some s =>
    rw [q] at e
    cases s with
    | dat d' =>
      have e' : d' = d := Option.some.inj e
      subst e'
      obtain ⟨x, hx, rx⟩ := r.at_ i _ q
      exact ⟨x, hx, k G H x (Ext.refl w) rx⟩
    | _ => cases e
theorem dv (i : Nat) {x : Str} (hN : X.N[i]? = some x := by rfl) (hv : Vis X.env.scope x := by first | exact Or.inl rfl | exact Or.inr (Or.inl rfl) | exact Or.inr (Or.inr rfl)) (hd : (x == ("__debug__" : Str)) = false := by decide)
    (hcd : (x == ("__classdict__" : Str)) = false := by decide) : PE X (.Name x pos) (tD cs (fVar i)) := PE.imp (pe_var hN hv hd hcd) fun _ _ _ h => tD_var h
theorem tD_C {v : V} {d : PyData} (hr : ∀ G, Rp G v d) {σ : L2.St} {H : Hp} {Q : VK} (h : tD cs (fC d) σ H Q) : tC v σ H Q := by
  obtain ⟨H0, G, env, d', w, r, e, k⟩ := h
  have e' : d = d' := Option.some.inj e
  subst e'
  exact k G H v (Ext.refl w) (hr G)
theorem de_int {i : Int} {j pos} : PE X (.Constant (.int i) j pos) (tD cs (fC (.int i))) := PE.imp pe_int fun _ _ _ h => tD_C (fun _ => .int i) h
theorem de_bl {b j pos} : PE X (.Constant (.bool b) j pos) (tD cs (fC (.bool b))) := PE.imp pe_bl fun _ _ _ h => tD_C (fun _ => .bl b) h
theorem de_non {j pos} : PE X (.Constant .none j pos) (tD cs (fC .none)) := PE.imp pe_non fun _ _ _ h => tD_C (fun _ => .non) h
theorem de_str {x j pos} : PE X (.Constant (.str x) j pos) (tD cs (fC (.str x))) := PE.imp pe_str fun _ _ _ h => tD_C (fun _ => .str x) h
/-- a module's int constant -/
theorem de_glob {x : Str} {i : Int} {t : Tok} (hg : Gl X x) (hm : X.mg x = some (.int i t)) (hd : (x == ("__debug__" : Str)) = false := by decide) : PE X (.Name x pos) (tD cs (fC (.int i))) :=
  PE.imp (pe_glob hg hm (v := .int i) ⟨t, rfl⟩ hd) fun _ _ _ h => tD_C (fun _ => .int i) h
end

/-! ### two places -/
def b2 (g : PyData → PyData → Option PyData) (fa fb : Fe) : Fe := fun env => (fa env).bind fun d => (fb env).bind fun e => g d e
/-- what a rule on values asks follows from the data -/
def DatR (cs : Cs) (g : PyData → PyData → Option PyData) (r : R2) : Prop := ∀ G H x y d e c Q, Wd cs G H → Rp G x d → Rp G y e → g d e = some c → (∀ G' H' v, Ext cs G H G' H' → Rp G' v c → Q v H') → r x y H Q
section
variable {X : Cx} {cs : Cs} {pos : Pos} {a b : Expr} {fa fb : Fe} {g : PyData → PyData → Option PyData} {r : R2}
theorem tD_op (hr : DatR cs g r) {σ : L2.St} {H : Hp} {Q : VK} (h : tD cs (b2 g fa fb) σ H Q) : tOp r (tD cs fa) (tD cs fb) σ H Q := by
  obtain ⟨H0, G, env, c, w, re, e, k⟩ := h
  unfold b2 at e
  cases ea : fa env with
  | none => rw [ea] at e; cases e
  | some d =>
    rw [ea] at e
    have e1 : ((fb env).bind fun e => g d e) = some c := e
    cases eb : fb env with
    | none => rw [eb] at e1; cases e1
    | some d2 =>
      rw [eb] at e1
      have e2 : g d d2 = some c := e1
      refine ⟨H0, G, env, d, w, re, ea, fun G1 H1 x x1 rx => ?_⟩
      refine ⟨H0, G1, env, d2, x1.wd, re.ext w x1, eb, fun G2 H2 y x2 ry => ?_⟩
      exact hr G2 H2 x y d d2 c Q x2.wd (rx.mono x2.old) ry e2 fun G3 H3 v x3 rv => k G3 H3 v (x1.trans (x2.trans x3)) rv
theorem de_op {op : Operator} (ho : OpR X (binaryOp op) r) (hr : DatR cs g r) (ha : PE X a (tD cs fa)) (hb : PE X b (tD cs fb)) : PE X (.BinOp a op b pos) (tD cs (b2 g fa fb)) := PE.imp (pe_op ho ha hb) fun _ _ _ h => tD_op hr h
theorem de_cmp {op : CmpOp} (ho : OpR X (compareOp op) r) (hr : DatR cs g r) (ha : PE X a (tD cs fa)) (hb : PE X b (tD cs fb)) (hm : behindInMarks op b = false) : PE X (.Compare a [op] [b] pos) (tD cs (b2 g fa fb)) := PE.imp (pe_cmpR ho ha hb hm) fun _ _ _ h => tD_op hr h
theorem de_ix (hr : IxR X r) (hd : DatR cs g r) (ha : PE X a (tD cs fa)) (hb : PE X b (tD cs fb)) (hs : PlainIx b) : PE X (.Subscript a b pos) (tD cs (b2 g fa fb)) := PE.imp (pe_ix hr ha hb hs) fun _ _ _ h => tD_op hd h
end
/-! ints -/
def gI (C : Int → Int → Bool) (g : Int → Int → PyData) : PyData → PyData → Option PyData
  | .int i, .int j => if C i j = true then some (g i j) else none
  | _, _ => none
theorem gI_inv {C : Int → Int → Bool} {g : Int → Int → PyData} {d e c : PyData} (h : gI C g d e = some c) : ∃ i j, d = .int i ∧ e = .int j ∧ C i j = true ∧ g i j = c := by
  cases d with
  | int i =>
    cases e with
    | int j =>
      have h1 : (if C i j = true then some (g i j) else none) = some c := h
      by_cases hc : C i j = true
      · rw [if_pos hc] at h1
        exact ⟨i, j, rfl, rfl, hc, Option.some.inj h1⟩
      · rw [if_neg hc] at h1
        cases h1
    | _ => cases h
  | _ => cases h
def ofB (b : Bool) : PyData := .bool b
section
variable {cs : Cs}
theorem Rp.int_inv {G : Hp} {x : V} {i : Int} (h : Rp G x (.int i)) : x = .int i := by cases h; rfl
theorem datI {C : Int → Int → Bool} {P : Int → Int → Prop} {g : Int → Int → Int} (hP : ∀ i j, C i j = true → P i j) : DatR cs (gI C fun i j => .int (g i j)) (rI P fun i j => .int (g i j)) := by
  intro G H x y d e c Q w rx ry h k
  obtain ⟨i, j, rfl, rfl, hc, rfl⟩ := gI_inv h
  exact ⟨i, j, rx.int_inv, ry.int_inv, hP i j hc, k G H _ (Ext.refl w) (.int _)⟩
theorem datI0 {g : Int → Int → Int} : DatR cs (gI (fun _ _ => true) fun i j => .int (g i j)) (rI0 fun i j => .int (g i j)) := by
  intro G H x y d e c Q w rx ry h k
  obtain ⟨i, j, rfl, rfl, hc, rfl⟩ := gI_inv h
  exact ⟨i, j, rx.int_inv, ry.int_inv, k G H _ (Ext.refl w) (.int _)⟩
theorem datB0 {g : Int → Int → Bool} : DatR cs (gI (fun _ _ => true) fun i j => .bool (g i j)) (rI0 fun i j => .bl (g i j)) := by
  intro G H x y d e c Q w rx ry h k
  obtain ⟨i, j, rfl, rfl, hc, rfl⟩ := gI_inv h
  exact ⟨i, j, rx.int_inv, ry.int_inv, k G H _ (Ext.refl w) (.bl _)⟩
end
def gSub := gI (fun _ _ => true) fun i j => PyData.int (i - j)
def cMul (i j : Int) : Bool := (decide (-(2 ^ 64) < j) && decide (j < 2 ^ 64)) || (decide (-(2 ^ 64) < i) && decide (i < 2 ^ 64))
def gMul := gI cMul fun i j => PyData.int (i * j)
def cDiv (i j : Int) : Bool := decide (0 < j) && decide (j < 1073741824)
def gDiv := gI cDiv fun i j => PyData.int (i / j)
/-- + of ints, of lists -/
def gAdd : PyData → PyData → Option PyData
  | .int i, .int j => some (.int (i + j))
  | .list xs, .list ys => if xs.length + ys.length ≤ 5000 then some (.list (xs ++ ys)) else none
  | _, _ => none
section
variable {X : Cx} {cs : Cs} {pos : Pos} {a b : Expr} {fa fb : Fe}
theorem small5000 {n : Nat} (h : n ≤ 5000) : n ≤ sizeLine := by rw [sizeLine_eq]; omega
theorem de_sub (ha : PE X a (tD cs fa)) (hb : PE X b (tD cs fb)) : PE X (.BinOp a .Sub b pos) (tD cs (b2 gSub fa fb)) := de_op op_sub datI0 ha hb
theorem de_mul (ha : PE X a (tD cs fa)) (hb : PE X b (tD cs fb)) : PE X (.BinOp a .Mult b pos) (tD cs (b2 gMul fa fb)) := de_op op_mul (datI fun i j h => by
  unfold cMul at h
  simp only [Bool.or_eq_true, Bool.and_eq_true, decide_eq_true_eq] at h
  exact h.symm) ha hb
theorem de_fdiv (ha : PE X a (tD cs fa)) (hb : PE X b (tD cs fb)) : PE X (.BinOp a .FloorDiv b pos) (tD cs (b2 gDiv fa fb)) := de_op op_fdiv (datI fun i j h => by
  unfold cDiv at h
  simp only [Bool.and_eq_true, decide_eq_true_eq] at h
  exact h) ha hb
theorem de_add (ha : PE X a (tD cs fa)) (hb : PE X b (tD cs fb)) : PE X (.BinOp a .Add b pos) (tD cs (b2 gAdd fa fb)) := de_op (op_add.or op_cat) (by
  intro G H x y d e c Q w rx ry h k
  cases rx with
  | int i =>
    cases ry with
    | int j =>
      have h1 : some (PyData.int (i + j)) = some c := h
      cases h1
      exact .inl ⟨i, j, rfl, rfl, k G H _ (Ext.refl w) (.int _)⟩
    | _ => cases h
  | @lst p xs ds e1 r1 =>
    cases ry with
    | @lst q ys es e2 r2 =>
      have h1 : (if ds.length + es.length ≤ 5000 then some (PyData.list (ds ++ es)) else none) = some c := h
      by_cases hc : ds.length + es.length ≤ 5000
      · rw [if_pos hc] at h1
        cases h1
        refine .inr ⟨p, q, xs, ys, rfl, rfl, w.sub _ _ e1, w.sub _ _ e2, ?_, fun l hl => ?_⟩
        · rw [r1.length, r2.length]; exact small5000 hc
        · have x1 : Ext cs G H (upd G l (.lst (xs ++ ys))) (upd H l (.lst (xs ++ ys))) := Ext.laid w hl
          exact k _ _ _ x1 (.lst upd_same ((r1.append r2).mono x1.old))
      · rw [if_neg hc] at h1
        cases h1
    | _ => cases h
  | _ => cases h) ha hb
end
end DL

/-! Dl2: comparisons, tests, displays, subscripts, calls. -/
namespace DL
open PySem PySem.Spec PyProof.Rows L2

theorem Rp.bl_inv {G : Hp} {x : V} {b : Bool} (h : Rp G x (.bool b)) : x = .bl b := by cases h; rfl
theorem Rp.list_inv {G : Hp} {x : V} {ds : List PyData} (h : Rp G x (.list ds)) : ∃ a vs, x = .ref a ∧ G a = some (.lst vs) ∧ RpAll G vs ds := by
  cases h with
  | lst e r => exact ⟨_, _, rfl, e, r⟩
theorem Rp.tuple_inv {G : Hp} {x : V} {ds : List PyData} (h : Rp G x (.tuple ds)) : ∃ a vs, x = .ref a ∧ G a = some (.tup vs) ∧ RpAll G vs ds := by
  cases h with
  | tup e r => exact ⟨_, _, rfl, e, r⟩
theorem Rp.reads {X : Cx} {pins : List (Addr × Obj)} {σ : L2.St} {G H : Hp} {s : Shared} {x : V} {u : Value} {d : PyData} (I : Inv X pins σ H s) (k : Gle G H) (r : Rp G x d) (ru : RelV x u) : ∃ as, Reads s.heap u d as := Dp.reads I d x u (r.dp k) ru

/-! ### comparisons -/
def dep (d : PyData) : Bool := decide (d.depth ≤ 60)
/-- < : of ints, of alike tuples or lists -/
def gLt : PyData → PyData → Option PyData
  | .int i, .int j => some (.bool (decide (i < j)))
  | .tuple xs, .tuple ys => if (PySem.W.alikeAll xs ys && dep (.tuple xs)) = true then some (.bool (PySem.W.dataLt (.tuple xs) (.tuple ys))) else none
  | _, _ => none
def gLe := gI (fun _ _ => true) fun i j => PyData.bool (decide (i ≤ j))
def gGt := gI (fun _ _ => true) fun i j => PyData.bool (decide (j < i))
def gGe := gI (fun _ _ => true) fun i j => PyData.bool (decide (j ≤ i))
def gEq (d e : PyData) : Option PyData := if dep d = true then some (.bool (PyData.eqv d e)) else none
def gNe (d e : PyData) : Option PyData := if dep d = true then some (.bool (!PyData.eqv d e)) else none
def inD (d : PyData) (xs : List PyData) : Bool := xs.any fun y => PyData.eqv y d
def gIn : PyData → PyData → Option PyData
  | d, .list xs => if dep d = true then some (.bool (inD d xs)) else none
  | d, .tuple xs => if dep d = true then some (.bool (inD d xs)) else none
  | _, _ => none
def gNotIn : PyData → PyData → Option PyData
  | d, .list xs => if dep d = true then some (.bool (!inD d xs)) else none
  | d, .tuple xs => if dep d = true then some (.bool (!inD d xs)) else none
  | _, _ => none
/-- what a rule over readings gives, as a rule on values -/
def rDat (cs : Cs) (g : PyData → PyData → Option PyData) : R2 := fun x y H Q => ∃ G d e b, Wd cs G H ∧ Rp G x d ∧ Rp G y e ∧ g d e = some (.bool b) ∧ Q (.bl b) H
theorem datR_of {cs : Cs} {g : PyData → PyData → Option PyData} (hg : ∀ d e c, g d e = some c → ∃ b, c = .bool b) : DatR cs g (rDat cs g) := by
  intro G H x y d e c Q w rx ry h k
  obtain ⟨b, rfl⟩ := hg d e c h
  exact ⟨G, d, e, b, w, rx, ry, h, k G H _ (Ext.refl w) (.bl b)⟩
section
variable {X : Cx} {cs : Cs} {pos : Pos} {a b c : Expr} {fa fb fc : Fe}
theorem dep_le {d : PyData} (h : dep d = true) : d.depth ≤ 60 := of_decide_eq_true h
theorem gLt_inv {xs ys : List PyData} {c : PyData} (h : gLt (.tuple xs) (.tuple ys) = some c) : PySem.W.alikeAll xs ys = true ∧ dep (.tuple xs) = true ∧ c = .bool (PySem.W.dataLt (.tuple xs) (.tuple ys)) := by
  have h1 : (if (PySem.W.alikeAll xs ys && dep (.tuple xs)) = true then some (PyData.bool (PySem.W.dataLt (.tuple xs) (.tuple ys))) else none) = some c := h
  by_cases z : (PySem.W.alikeAll xs ys && dep (.tuple xs)) = true
  · rw [if_pos z] at h1
    obtain ⟨z1, z2⟩ := Bool.and_eq_true_iff.mp z
    exact ⟨z1, z2, (Option.some.inj h1).symm⟩
  · rw [if_neg z] at h1
    cases h1
theorem or_lt (hu : X.A.units + 64 < cLine) : OpR X (compareOp .Lt) (rDat cs gLt) := by
  intro pins s σ H x y v u Q I rv ru h
  obtain ⟨G, d, e, k, w, rx, ry, hg, q⟩ := h
  obtain ⟨as, r1⟩ := rx.reads I w.sub rv
  obtain ⟨bs, r2⟩ := ry.reads I w.sub ru
  have fin : ∀ k', k' = k → EP X pins σ Q (.bool k') s := fun k' z => ⟨.bl k, H, I, by subst z; rfl, q⟩
  cases d with
  | int i =>
    cases e with
    | int j =>
      have h1 : some (PyData.bool (decide (i < j))) = some (.bool k) := hg
      refine PySem.W.lt_data r1 r2 (by simp [PySem.W.alike]) (by simp) (by simp only [PyData.depth]; omega) (fin _ ?_)
      rw [PySem.W.dataLt_int]
      exact PyData.bool.inj (Option.some.inj h1)
    | _ => cases hg
  | tuple xs =>
    cases e with
    | tuple ys =>
      obtain ⟨z1, z2, z3⟩ := gLt_inv hg
      have z4 := dep_le z2
      refine PySem.W.lt_data r1 r2 (by simpa [PySem.W.alike] using z1) (by simp) ?_ (fin _ (PyData.bool.inj z3).symm)
      have := Nat.min_le_left (PyData.tuple xs).depth (PyData.tuple ys).depth
      omega
    | _ => cases hg
  | _ => cases hg
theorem if_some {p : Prop} [Decidable p] {x y : PyData} (h : (if p then some x else none) = some y) : p ∧ x = y := by
  by_cases z : p
  · rw [if_pos z] at h; exact ⟨z, Option.some.inj h⟩
  · rw [if_neg z] at h; cases h
theorem or_eq (hu : X.A.units + 64 < cLine) : OpR X (compareOp .Eq) (rDat cs gEq) := by
  intro pins s σ H x y v u Q I rv ru h
  obtain ⟨G, d, e, k, w, rx, ry, hg, q⟩ := h
  obtain ⟨as, r1⟩ := rx.reads I w.sub rv
  obtain ⟨bs, r2⟩ := ry.reads I w.sub ru
  obtain ⟨z1, z2⟩ := if_some hg
  have z3 := dep_le z1
  cases z2
  refine SeqAt.eq_plain r1 r2 rx.plain ry.plain ?_ ⟨.bl _, H, I, rfl, q⟩
  have := Nat.min_le_left d.depth e.depth
  omega
theorem or_ne (hu : X.A.units + 64 < cLine) : OpR X (compareOp .NotEq) (rDat cs gNe) := by
  intro pins s σ H x y v u Q I rv ru h
  obtain ⟨G, d, e, k, w, rx, ry, hg, q⟩ := h
  obtain ⟨as, r1⟩ := rx.reads I w.sub rv
  obtain ⟨bs, r2⟩ := ry.reads I w.sub ru
  obtain ⟨z1, z2⟩ := if_some hg
  have z3 := dep_le z1
  cases z2
  refine SeqAt.ne_plain r1 r2 rx.plain ry.plain ?_ ⟨.bl _, H, I, rfl, q⟩
  have := Nat.min_le_left d.depth e.depth
  omega
theorem plain_list {xs : List PyData} (h : (PyData.list xs).plain = true) : PyData.plainAll xs = true := h
theorem plain_tuple {xs : List PyData} (h : (PyData.tuple xs).plain = true) : PyData.plainAll xs = true := h
theorem room_min {A : Around} {xs : List PyData} {d : PyData} (hu : A.units + 64 < cLine) (hd : dep d = true) : A.units + 1 + min (PyData.depthAll xs) d.depth < cLine := by
  have := dep_le hd
  have := Nat.min_le_right (PyData.depthAll xs) d.depth
  omega
theorem or_in (hu : X.A.units + 64 < cLine) : OpR X (compareOp .In) (rDat cs gIn) := by
  intro pins s σ H x y v u Q I rv ru h
  obtain ⟨G, d, e, k, w, rx, ry, hg, q⟩ := h
  obtain ⟨as, r1⟩ := rx.reads I w.sub rv
  obtain ⟨bs, r2⟩ := ry.reads I w.sub ru
  cases e with
  | list xs =>
    obtain ⟨z1, z2⟩ := if_some (show (if dep d = true then some (PyData.bool (inD d xs)) else none) = some (PyData.bool k) from hg)
    cases z2
    exact SeqAt.in_list_data r2 r1 (plain_list ry.plain) rx.plain (room_min hu z1) ⟨.bl _, H, I, rfl, q⟩
  | tuple xs =>
    obtain ⟨z1, z2⟩ := if_some (show (if dep d = true then some (PyData.bool (inD d xs)) else none) = some (PyData.bool k) from hg)
    cases z2
    exact SeqAt.in_tuple_data r2 r1 (plain_tuple ry.plain) rx.plain (room_min hu z1) ⟨.bl _, H, I, rfl, q⟩
  | _ => cases hg
theorem or_notIn (hu : X.A.units + 64 < cLine) : OpR X (compareOp .NotIn) (rDat cs gNotIn) := by
  intro pins s σ H x y v u Q I rv ru h
  obtain ⟨G, d, e, k, w, rx, ry, hg, q⟩ := h
  obtain ⟨as, r1⟩ := rx.reads I w.sub rv
  obtain ⟨bs, r2⟩ := ry.reads I w.sub ru
  cases e with
  | list xs =>
    obtain ⟨z1, z2⟩ := if_some (show (if dep d = true then some (PyData.bool (!inD d xs)) else none) = some (PyData.bool k) from hg)
    cases z2
    exact SeqAt.notIn_list_data r2 r1 (plain_list ry.plain) rx.plain (room_min hu z1) ⟨.bl _, H, I, rfl, q⟩
  | tuple xs =>
    obtain ⟨z1, z2⟩ := if_some (show (if dep d = true then some (PyData.bool (!inD d xs)) else none) = some (PyData.bool k) from hg)
    cases z2
    exact SeqAt.notIn_tuple_data r2 r1 (plain_tuple ry.plain) rx.plain (room_min hu z1) ⟨.bl _, H, I, rfl, q⟩
  | _ => cases hg
theorem gLt_b : ∀ d e c, gLt d e = some c → ∃ b, c = .bool b := by
  intro d e c h
  cases d with
  | int i =>
    cases e with
    | int j => exact ⟨_, (Option.some.inj h).symm⟩
    | _ => cases h
  | tuple xs =>
    cases e with
    | tuple ys => exact ⟨_, (gLt_inv h).2.2⟩
    | _ => cases h
  | _ => cases h
theorem gIn_b : ∀ d e c, gIn d e = some c → ∃ b, c = .bool b := by
  intro d e c h
  cases e with
  | list xs => exact ⟨_, (if_some (show (if dep d = true then some (PyData.bool (inD d xs)) else none) = some c from h)).2.symm⟩
  | tuple xs => exact ⟨_, (if_some (show (if dep d = true then some (PyData.bool (inD d xs)) else none) = some c from h)).2.symm⟩
  | _ => cases h
theorem gNotIn_b : ∀ d e c, gNotIn d e = some c → ∃ b, c = .bool b := by
  intro d e c h
  cases e with
  | list xs => exact ⟨_, (if_some (show (if dep d = true then some (PyData.bool (!inD d xs)) else none) = some c from h)).2.symm⟩
  | tuple xs => exact ⟨_, (if_some (show (if dep d = true then some (PyData.bool (!inD d xs)) else none) = some c from h)).2.symm⟩
  | _ => cases h
theorem hu64 {k : Nat} {A : Around} (r : Room k A) : A.units + 64 < cLine := r.units
theorem de_lt {k : Nat} (hr : Room k X.A) (ha : PE X a (tD cs fa)) (hb : PE X b (tD cs fb)) : PE X (.Compare a [.Lt] [b] pos) (tD cs (b2 gLt fa fb)) := de_cmp (or_lt (hu64 hr)) (datR_of gLt_b) ha hb (nomark _)
theorem de_eq {k : Nat} (hr : Room k X.A) (ha : PE X a (tD cs fa)) (hb : PE X b (tD cs fb)) : PE X (.Compare a [.Eq] [b] pos) (tD cs (b2 gEq fa fb)) := de_cmp (or_eq (hu64 hr)) (datR_of fun _ _ _ h => ⟨_, (if_some h).2.symm⟩) ha hb (nomark _)
theorem de_ne {k : Nat} (hr : Room k X.A) (ha : PE X a (tD cs fa)) (hb : PE X b (tD cs fb)) : PE X (.Compare a [.NotEq] [b] pos) (tD cs (b2 gNe fa fb)) := de_cmp (or_ne (hu64 hr)) (datR_of fun _ _ _ h => ⟨_, (if_some h).2.symm⟩) ha hb (nomark _)
theorem de_in {k : Nat} (hr : Room k X.A) (ha : PE X a (tD cs fa)) (hb : PE X b (tD cs fb)) (hm : behindInMarks .In b = false := by rfl) : PE X (.Compare a [.In] [b] pos) (tD cs (b2 gIn fa fb)) := de_cmp (or_in (hu64 hr)) (datR_of gIn_b) ha hb hm
theorem de_notIn {k : Nat} (hr : Room k X.A) (ha : PE X a (tD cs fa)) (hb : PE X b (tD cs fb)) (hm : behindInMarks .NotIn b = false := by rfl) : PE X (.Compare a [.NotIn] [b] pos) (tD cs (b2 gNotIn fa fb)) := de_cmp (or_notIn (hu64 hr)) (datR_of gNotIn_b) ha hb hm
theorem de_le (ha : PE X a (tD cs fa)) (hb : PE X b (tD cs fb)) : PE X (.Compare a [.LtE] [b] pos) (tD cs (b2 gLe fa fb)) := de_cmp op_le datB0 ha hb (nomark _)
theorem de_gt (ha : PE X a (tD cs fa)) (hb : PE X b (tD cs fb)) : PE X (.Compare a [.Gt] [b] pos) (tD cs (b2 gGt fa fb)) := de_cmp op_gt datB0 ha hb (nomark _)
theorem de_ge (ha : PE X a (tD cs fa)) (hb : PE X b (tD cs fb)) : PE X (.Compare a [.GtE] [b] pos) (tD cs (b2 gGe fa fb)) := de_cmp op_ge datB0 ha hb (nomark _)
end
def isN : PyData → Bool
  | .none => true
  | _ => false
def f1 (g : PyData → Option PyData) (fa : Fe) : Fe := fun env => (fa env).bind g
/-- a <= b <= c of ints; c is asked if the first holds -/
def fChain (fa fb fc : Fe) : Fe := fun env => (fa env).bind fun x => (fb env).bind fun y => match x, y with
  | .int i, .int j => if i ≤ j then (fc env).bind fun z => gLe (.int j) z else some (.bool false)
  | _, _ => none
section
variable {X : Cx} {cs : Cs} {pos : Pos} {a b c : Expr} {fa fb fc : Fe} {H : Hp} {σ : L2.St} {Q : VK}
/-- one part of a reading -/
theorem tD_one {g : PyData → Option PyData} {k : V → Hp → VK → Prop} (hk : ∀ G H x d c Q, Wd cs G H → Rp G x d → g d = some c → (∀ G' H' v, Ext cs G H G' H' → Rp G' v c → Q v H') → k x H Q)
    (h : tD cs (f1 g fa) σ H Q) : tD cs fa σ H fun x H1 => k x H1 Q := by
  obtain ⟨H0, G, env, d, w, r, e, q⟩ := h
  unfold f1 at e
  cases ea : fa env with
  | none => rw [ea] at e; cases e
  | some d1 =>
    rw [ea] at e
    exact ⟨H0, G, env, d1, w, r, ea, fun G1 H1 x x1 rx => hk G1 H1 x d1 d Q x1.wd rx e fun G2 H2 v x2 rv => q G2 H2 v (x1.trans x2) rv⟩
theorem dec_isN {G : Hp} {x : V} {d : PyData} (r : Rp G x d) : decide (x = V.non) = isN d := by
  cases r <;> simp [isN]
theorem de_isN {j pos'} (ha : PE X a (tD cs fa)) : PE X (.Compare a [.Is] [.Constant .none j pos'] pos) (tD cs (f1 (fun d => some (.bool (isN d))) fa)) :=
  PE.imp (pe_cmp (pc_isN ha)) fun σ H Q h => tD_one (k := fun x H1 Q => Q (.bl (decide (x = .non))) H1) (fun G H x d c Q w rx e k => by
    cases e
    rw [dec_isN rx]
    exact k G H _ (Ext.refl w) (.bl _)) h
theorem de_chain (ha : PE X a (tD cs fa)) (hb : PE X b (tD cs fb)) (hc : PE X c (tD cs fc)) (hm : lastMarks [.LtE, .LtE] [b, c] = false := by with_unfolding_all rfl) :
    PE X (.Compare a [.LtE, .LtE] [b, c] pos) (tD cs (fChain fa fb fc)) := PE.imp (pe_chain op_le op_le ha hb hc hm) fun σ H Q h => by
  obtain ⟨H0, G, env, d, w, r, e, q⟩ := h
  unfold fChain at e
  cases ea : fa env with
  | none => rw [ea] at e; cases e
  | some d1 =>
    cases eb : fb env with
    | none => rw [ea, eb] at e; cases e
    | some d2 =>
      rw [ea, eb] at e
      refine ⟨H0, G, env, d1, w, r, ea, fun G1 H1 x x1 rx => ?_⟩
      refine ⟨H0, G1, env, d2, x1.wd, r.ext w x1, eb, fun G2 H2 y x2 ry => ?_⟩
      have x12 := x1.trans x2
      cases d1 with
      | int i =>
        cases d2 with
        | int j =>
          have e1 : (if i ≤ j then (fc env).bind fun z => gLe (.int j) z else some (PyData.bool false)) = some d := e
          refine ⟨i, j, rx.int_inv, ry.int_inv, decide (i ≤ j), rfl, ?_⟩
          by_cases z : i ≤ j
          · rw [if_pos z] at e1
            rw [decide_eq_true z, if_pos rfl]
            cases ec : fc env with
            | none => rw [ec] at e1; cases e1
            | some d3 =>
              rw [ec] at e1
              refine ⟨H0, G2, env, d3, x2.wd, (r.ext w x1).ext x1.wd x2, ec, fun G3 H3 z x3 rz => ?_⟩
              obtain ⟨i2, j2, z1, z2, _, z4⟩ := gI_inv (show gLe (.int j) d3 = some d from e1)
              cases z1
              subst z2
              refine ⟨j, j2, ry.int_inv, rz.int_inv, ?_⟩
              exact q G3 H3 _ (x12.trans x3) (by rw [← z4]; exact .bl _)
          · rw [if_neg z] at e1
            rw [decide_eq_false z, if_neg Bool.false_ne_true]
            cases e1
            exact q G2 H2 _ x12 (.bl false)
        | _ => cases e
      | _ => cases e
end

/-! ### tests -/
abbrev Ft := SE → Option Bool
def truD : PyData → Option Bool
  | .none => some false
  | .bool b => some b
  | .int i => some (i != 0)
  | .list xs => some (!xs.isEmpty)
  | .tuple xs => some (!xs.isEmpty)
  | _ => none
def fTru (fa : Fe) : Ft := fun env => (fa env).bind truD
def isB : PyData → Option Bool
  | .bool b => some b
  | _ => none
section
variable {X : Cx} {cs : Cs} {pos : Pos} {a b c : Expr} {fa fb fc : Fe} {ta tb : Ft} {rest : List Expr}
theorem RpAll.empty {G : Hp} {vs : List V} {ds : List PyData} (r : RpAll G vs ds) : vs.isEmpty = ds.isEmpty := by
  cases r <;> rfl
theorem tru_of {K : PySem.W.Frag} {G H : Hp} {x : V} {d : PyData} {b : Bool} (k : Gle G H) (r : Rp G x d) (h : truD d = some b) : TruV K x H b := by
  cases r with
  | non => cases h; rfl
  | bl b' => cases h; rfl
  | int i => cases h; rfl
  | str x => cases h
  | lst e r =>
    cases h
    exact .inl ⟨_, SqL.of (k _ _ e), by rw [r.empty]⟩
  | tup e r =>
    cases h
    exact .inr (.inl ⟨_, SqT.of (k _ _ e), by rw [r.empty]⟩)
/-- a value as a test -/
theorem dt_val (ha : PE X a (tD cs fa)) (he : ∀ whole, isTrue a X.env whole = (do let v ← whole; standAt a.pos; holding [v] (truthy v)) := by intro _; rfl) : PT X a (tDT cs (fTru fa)) :=
  PT.imp (pt_truth ha he) fun σ H Q h => by
    obtain ⟨H0, G, env, b, w, r, e, q⟩ := h
    unfold fTru at e
    cases ea : fa env with
    | none => rw [ea] at e; cases e
    | some d =>
      rw [ea] at e
      exact ⟨H0, G, env, d, w, r, ea, fun G1 H1 x x1 rx => ⟨b, tru_of x1.wd.sub rx e, q G1 H1 x1⟩⟩
def fNotT (ta : Ft) : Ft := fun env => (ta env).bind fun b => some (!b)
theorem dt_not (ha : PT X a (tDT cs ta)) : PT X (.UnaryOp .Not a pos) (tDT cs (fNotT ta)) := PT.imp (pt_not ha) fun σ H Q h => by
  obtain ⟨H0, G, env, b, w, r, e, q⟩ := h
  unfold fNotT at e
  cases ea : ta env with
  | none => rw [ea] at e; cases e
  | some b1 =>
    rw [ea] at e
    cases e
    exact ⟨H0, G, env, b1, w, r, ea, fun G1 H1 x1 => q G1 H1 x1⟩
def fOrT (ta tb : Ft) : Ft := fun env => (ta env).bind fun b => if b = true then some true else tb env
def fAndT (ta tb : Ft) : Ft := fun env => (ta env).bind fun b => if b = true then tb env else some false
theorem dw_or1 (ha : PT X a (tDT cs ta)) : PW X (.BoolOp .Or [a] pos) (tDT cs ta) := pw_or1 ha
theorem dw_and1 (ha : PT X a (tDT cs ta)) : PW X (.BoolOp .And [a] pos) (tDT cs ta) := pw_and1 ha
theorem dw_or (ha : PT X a (tDT cs ta)) (hb : PW X (.BoolOp .Or (b :: rest) pos) (tDT cs tb)) : PW X (.BoolOp .Or (a :: b :: rest) pos) (tDT cs (fOrT ta tb)) := PW.imp (pw_or ha hb) fun σ H Q h => by
  obtain ⟨H0, G, env, d, w, r, e, q⟩ := h
  unfold fOrT at e
  cases ea : ta env with
  | none => rw [ea] at e; cases e
  | some b1 =>
    rw [ea] at e
    refine ⟨H0, G, env, b1, w, r, ea, fun G1 H1 x1 => ?_⟩
    cases b1 with
    | true => cases e; exact iteT (q G1 H1 x1)
    | false => exact iteF ⟨H0, G1, env, d, x1.wd, r.ext w x1, e, fun G2 H2 x2 => q G2 H2 (x1.trans x2)⟩
theorem dw_and (ha : PT X a (tDT cs ta)) (hb : PW X (.BoolOp .And (b :: rest) pos) (tDT cs tb)) : PW X (.BoolOp .And (a :: b :: rest) pos) (tDT cs (fAndT ta tb)) := PW.imp (pw_and ha hb) fun σ H Q h => by
  obtain ⟨H0, G, env, d, w, r, e, q⟩ := h
  unfold fAndT at e
  cases ea : ta env with
  | none => rw [ea] at e; cases e
  | some b1 =>
    rw [ea] at e
    refine ⟨H0, G, env, b1, w, r, ea, fun G1 H1 x1 => ?_⟩
    cases b1 with
    | false => cases e; exact iteF (q G1 H1 x1)
    | true => exact iteT ⟨H0, G1, env, d, x1.wd, r.ext w x1, e, fun G2 H2 x2 => q G2 H2 (x1.trans x2)⟩
/-- .. as values -/
def fOr (fa fb : Fe) : Fe := fun env => (fa env).bind fun x => (isB x).bind fun b => if b = true then some (.bool true) else fb env
def fAnd (fa fb : Fe) : Fe := fun env => (fa env).bind fun x => (isB x).bind fun b => if b = true then fb env else some (.bool false)
theorem isB_inv {x : PyData} {b : Bool} (h : isB x = some b) : x = .bool b := by
  cases x with
  | bool c => cases h; rfl
  | _ => cases h
theorem de_one {op} (h : PE X a (tD cs fa)) : PE X (.BoolOp op [a] pos) (tD cs fa) := pe_one h
theorem de_or (ha : PE X a (tD cs fa)) (hb : PE X (.BoolOp .Or (b :: rest) pos) (tD cs fb)) : PE X (.BoolOp .Or (a :: b :: rest) pos) (tD cs (fOr fa fb)) := PE.imp (pe_or ha hb) fun σ H Q h => by
  obtain ⟨H0, G, env, d, w, r, e, q⟩ := h
  unfold fOr at e
  cases ea : fa env with
  | none => rw [ea] at e; cases e
  | some x =>
    rw [ea] at e
    have e1 : ((isB x).bind fun b => if b = true then some (.bool true) else fb env) = some d := e
    cases eb : isB x with
    | none => rw [eb] at e1; cases e1
    | some b1 =>
      rw [eb] at e1
      have e2 : (if b1 = true then some (.bool true) else fb env) = some d := e1
      have ex := isB_inv eb
      subst ex
      refine ⟨H0, G, env, _, w, r, ea, fun G1 H1 x x1 rx => ⟨b1, rx.bl_inv, ?_⟩⟩
      cases b1 with
      | true => cases e2; exact iteT (q G1 H1 _ x1 (.bl true))
      | false => exact iteF ⟨H0, G1, env, d, x1.wd, r.ext w x1, e2, fun G2 H2 v x2 rv => q G2 H2 v (x1.trans x2) rv⟩
theorem de_and (ha : PE X a (tD cs fa)) (hb : PE X (.BoolOp .And (b :: rest) pos) (tD cs fb)) : PE X (.BoolOp .And (a :: b :: rest) pos) (tD cs (fAnd fa fb)) := PE.imp (pe_and ha hb) fun σ H Q h => by
  obtain ⟨H0, G, env, d, w, r, e, q⟩ := h
  unfold fAnd at e
  cases ea : fa env with
  | none => rw [ea] at e; cases e
  | some x =>
    rw [ea] at e
    have e1 : ((isB x).bind fun b => if b = true then fb env else some (.bool false)) = some d := e
    cases eb : isB x with
    | none => rw [eb] at e1; cases e1
    | some b1 =>
      rw [eb] at e1
      have e2 : (if b1 = true then fb env else some (.bool false)) = some d := e1
      have ex := isB_inv eb
      subst ex
      refine ⟨H0, G, env, _, w, r, ea, fun G1 H1 x x1 rx => ⟨b1, rx.bl_inv, ?_⟩⟩
      cases b1 with
      | false => cases e2; exact iteF (q G1 H1 _ x1 (.bl false))
      | true => exact iteT ⟨H0, G1, env, d, x1.wd, r.ext w x1, e2, fun G2 H2 v x2 rv => q G2 H2 v (x1.trans x2) rv⟩
/-- not, of a truth value -/
theorem de_not (ha : PE X a (tD cs fa)) : PE X (.UnaryOp .Not a pos) (tD cs (f1 (fun d => (isB d).bind fun b => some (.bool (!b))) fa)) :=
  PE.imp (pe_not ha) fun σ H Q h => tD_one (k := fun x H1 Q => ∃ c, x = .bl c ∧ Q (.bl (!c)) H1) (fun G H x d c Q w rx e k => by
    cases eb : isB d with
    | none => rw [eb] at e; cases e
    | some b =>
      rw [eb] at e
      have ex := isB_inv eb
      subst ex
      cases e
      exact ⟨b, rx.bl_inv, k G H _ (Ext.refl w) (.bl _)⟩) h
theorem de_neg (ha : PE X a (tD cs fa)) : PE X (.UnaryOp .USub a pos) (tD cs (f1 (fun d => match d with | .int i => some (.int (-i)) | _ => none) fa)) :=
  PE.imp (pe_un un_neg ha) fun σ H Q h => tD_one (k := fun x H1 Q => rU (fun i => .int (-i)) x H1 Q) (fun G H x d c Q w rx e k => by
    cases d with
    | int i =>
      cases e
      exact ⟨i, rx.int_inv, k G H _ (Ext.refl w) (.int _)⟩
    | _ => cases e) h
def fIf (tc : Ft) (fa fb : Fe) : Fe := fun env => (tc env).bind fun b => if b = true then fa env else fb env
theorem de_if {c : Expr} {tc : Ft} (hc : PT X c (tDT cs tc)) (ha : PE X a (tD cs fa)) (hb : PE X b (tD cs fb)) : PE X (.IfExp c a b pos) (tD cs (fIf tc fa fb)) := PE.imp (pe_ifExp hc ha hb) fun σ H Q h => by
  obtain ⟨H0, G, env, d, w, r, e, q⟩ := h
  unfold fIf at e
  cases ea : tc env with
  | none => rw [ea] at e; cases e
  | some b1 =>
    rw [ea] at e
    refine ⟨H0, G, env, b1, w, r, ea, fun G1 H1 x1 => ?_⟩
    cases b1 with
    | false => exact iteF ⟨H0, G1, env, d, x1.wd, r.ext w x1, e, fun G2 H2 v x2 rv => q G2 H2 v (x1.trans x2) rv⟩
    | true => exact iteT ⟨H0, G1, env, d, x1.wd, r.ext w x1, e, fun G2 H2 v x2 rv => q G2 H2 v (x1.trans x2) rv⟩
end

/-! ### argument lists, displays -/
abbrev Fs := SE → Option (List PyData)
def sNil : Fs := fun _ => some []
def sCons (fa : Fe) (fs : Fs) : Fs := fun env => (fa env).bind fun d => (fs env).bind fun ds => some (d :: ds)
def itemsD : PyData → Option (List PyData)
  | .list xs => some xs
  | .tuple xs => some xs
  | _ => none
def sStar (fa : Fe) (fs : Fs) : Fs := fun env => (fa env).bind fun d => (itemsD d).bind fun xs => (fs env).bind fun ds => some (xs ++ ds)
section
variable {X : Cx} {cs : Cs} {pos p : Pos} {e : Expr} {es : List Expr} {fa : Fe} {fs : Fs}
theorem da_nil : PA X [] (tDA cs sNil) := PA.imp pa_nil fun σ H Q h => by
  obtain ⟨H0, G, env, ds, w, r, e, q⟩ := h
  cases e
  exact q G H [] (Ext.refl w) .nil
theorem da_cons (ha : PE X e (tD cs fa)) (hr : PA X es (tDA cs fs)) (hs : starEach (e :: es) X.env = (false, eval e X.env) :: starEach es X.env := by rfl) : PA X (e :: es) (tDA cs (sCons fa fs)) := PA.imp (pa_cons ha hr hs) fun σ H Q h => by
  obtain ⟨H0, G, env, ds, w, r, e, q⟩ := h
  unfold sCons at e
  cases ea : fa env with
  | none => rw [ea] at e; cases e
  | some d =>
    rw [ea] at e
    have e1 : ((fs env).bind fun ds => some (d :: ds)) = some ds := e
    cases eb : fs env with
    | none => rw [eb] at e1; cases e1
    | some dr =>
      rw [eb] at e1
      cases e1
      exact ⟨H0, G, env, d, w, r, ea, fun G1 H1 x x1 rx => ⟨H0, G1, env, dr, x1.wd, r.ext w x1, eb, fun G2 H2 vs x2 rv => q G2 H2 _ (x1.trans x2) (.cons (rx.mono x2.old) rv)⟩⟩
theorem da_star (ha : PE X e (tD cs fa)) (hr : PA X es (tDA cs fs)) (hs : starEach (.Starred e p :: es) X.env = (true, eval e X.env) :: starEach es X.env := by rfl) : PA X (.Starred e p :: es) (tDA cs (sStar fa fs)) := PA.imp (StX.pa_star ha hr hs) fun σ H Q h => by
  obtain ⟨H0, G, env, ds, w, r, e, q⟩ := h
  unfold sStar at e
  cases ea : fa env with
  | none => rw [ea] at e; cases e
  | some d =>
    rw [ea] at e
    have e1 : ((itemsD d).bind fun xs => (fs env).bind fun ds => some (xs ++ ds)) = some ds := e
    cases ex : itemsD d with
    | none => rw [ex] at e1; cases e1
    | some xs =>
      rw [ex] at e1
      have e2 : ((fs env).bind fun ds => some (xs ++ ds)) = some ds := e1
      cases eb : fs env with
      | none => rw [eb] at e2; cases e2
      | some dr =>
        rw [eb] at e2
        cases e2
        refine ⟨H0, G, env, d, w, r, ea, fun G1 H1 x x1 rx => ?_⟩
        have hx : ∃ a vs, x = .ref a ∧ (G1 a = some (.tup vs) ∨ G1 a = some (.lst vs)) ∧ RpAll G1 vs xs := by
          cases d with
          | list ys => cases ex; obtain ⟨a, vs, h1, h2, h3⟩ := rx.list_inv; exact ⟨a, vs, h1, .inr h2, h3⟩
          | tuple ys => cases ex; obtain ⟨a, vs, h1, h2, h3⟩ := rx.tuple_inv; exact ⟨a, vs, h1, .inl h2, h3⟩
          | _ => cases ex
        obtain ⟨a, vs, h1, h2, h3⟩ := hx
        refine ⟨a, vs, h1, ?_, ⟨H0, G1, env, dr, x1.wd, r.ext w x1, eb, fun G2 H2 ws x2 rv => q G2 H2 _ (x1.trans x2) ((h3.mono x2.old).append rv)⟩⟩
        rcases h2 with h2 | h2
        · exact .inl (SqT.of (x1.wd.sub _ _ h2))
        · exact .inr (SqL.of (x1.wd.sub _ _ h2))
def gTup (ds : List PyData) : Option PyData := if ds.length ≤ 5000 then some (.tuple ds) else none
def gLst (ds : List PyData) : Option PyData := if ds.length ≤ 5000 then some (.list ds) else none
def fS (g : List PyData → Option PyData) (fs : Fs) : Fe := fun env => (fs env).bind g
theorem tD_args {g : List PyData → Option PyData} {k : List V → Hp → VK → Prop} {σ : L2.St} {H : Hp} {Q : VK} (hk : ∀ G H vs ds c Q, Wd cs G H → RpAll G vs ds → g ds = some c → (∀ G' H' v, Ext cs G H G' H' → Rp G' v c → Q v H') → k vs H Q)
    (h : tD cs (fS g fs) σ H Q) : tDA cs fs σ H fun vs H1 => k vs H1 Q := by
  obtain ⟨H0, G, env, d, w, r, e, q⟩ := h
  unfold fS at e
  cases ea : fs env with
  | none => rw [ea] at e; cases e
  | some d1 =>
    rw [ea] at e
    exact ⟨H0, G, env, d1, w, r, ea, fun G1 H1 x x1 rx => hk G1 H1 x d1 d Q x1.wd rx e fun G2 H2 v x2 rv => q G2 H2 v (x1.trans x2) rv⟩
theorem de_tup {x1} (h : PA X es (tDA cs fs)) : PE X (.Tuple es x1 pos) (tD cs (fS gTup fs)) := PE.imp (pe_tup h) fun σ H Q hh => tD_args (k := fun xs H1 Q => xs.length ≤ sizeLine ∧ ∀ p, H1 p = none → Q (.ref p) (upd H1 p (.tup xs))) (fun G H vs ds c Q w r e k => by
  obtain ⟨z1, z2⟩ := if_some e
  cases z2
  refine ⟨by rw [r.length]; exact small5000 z1, fun p hp => ?_⟩
  have x1 := Ext.laid (o := .tup vs) w hp
  exact k _ _ _ x1 (.tup upd_same (r.mono x1.old))) hh
theorem de_lst (h : PA X es (tDA cs fs)) : PE X (.List es pos) (tD cs (fS gLst fs)) := PE.imp (pe_lst h) fun σ H Q hh => tD_args (k := fun xs H1 Q => xs.length ≤ sizeLine ∧ ∀ p, H1 p = none → Q (.ref p) (upd H1 p (.lst xs))) (fun G H vs ds c Q w r e k => by
  obtain ⟨z1, z2⟩ := if_some e
  cases z2
  refine ⟨by rw [r.length]; exact small5000 z1, fun p hp => ?_⟩
  have x1 := Ext.laid (o := .lst vs) w hp
  exact k _ _ _ x1 (.lst upd_same (r.mono x1.old))) hh
end

/-! ### subscripts -/
def gIx : PyData → PyData → Option PyData
  | .list xs, .int i => atI xs i
  | .tuple xs, .int i => atI xs i
  | _, _ => none
theorem RpAll.atI {G : Hp} {vs : List V} {ds : List PyData} {i : Int} {d : PyData} (r : RpAll G vs ds) (h : atI ds i = some d) : ∃ v, L2.atI vs i = some v ∧ Rp G v d := by
  unfold L2.atI at h ⊢
  rw [r.length]
  cases q : ixN ds.length i with
  | none => rw [q] at h; cases h
  | some j =>
    rw [q] at h
    exact r.get h
section
variable {X : Cx} {cs : Cs} {pos : Pos} {a b : Expr} {fa fb : Fe}
theorem de_at (ha : PE X a (tD cs fa)) (hb : PE X b (tD cs fb)) (hs : PlainIx b := by exact fun _ _ => rfl) : PE X (.Subscript a b pos) (tD cs (b2 gIx fa fb)) := de_ix (ix_list.or ix_tup) (by
  intro G H x y d e c Q w rx ry h k
  cases rx with
  | @lst p xs ds e1 r1 =>
    cases ry with
    | int j =>
      obtain ⟨v, hv, rv⟩ := r1.atI h
      exact .inl ⟨p, xs, j, v, rfl, rfl, SqL.of (w.sub _ _ e1), hv, k G H v (Ext.refl w) rv⟩
    | _ => cases h
  | @tup p xs ds e1 r1 =>
    cases ry with
    | int j =>
      obtain ⟨v, hv, rv⟩ := r1.atI h
      exact .inr ⟨p, xs, j, v, rfl, rfl, SqT.of (w.sub _ _ e1), hv, k G H v (Ext.refl w) rv⟩
    | _ => cases h
  | _ => cases h) ha hb hs
end

/-! ### a def of the module -/
def spD (cs : Cs) (m : List PyData → Option PyData) (n : Nat) : Sp := fun vs H Q _ => vs.length = n ∧ ∃ G ds d, Wd cs G H ∧ RpAll G vs ds ∧ m ds = some d ∧ ∀ G' H' v, Ext cs G H G' H' → Rp G' v d → Q v H'
section
variable {X : Cx} {cs : Cs} {pos p : Pos} {e : Expr} {es : List Expr} {fs : Fs} {x : Str} {f : Addr} {fd : FuncData} {ps : List Str} {m : List PyData → Option PyData} {k n : Nat}
def gN (n : Nat) (m : List PyData → Option PyData) (ds : List PyData) : Option PyData := if ds.length = n then m ds else none
theorem gN_inv {ds : List PyData} {c : PyData} (h : gN n m ds = some c) : ds.length = n ∧ m ds = some c := by
  unfold gN at h
  by_cases z : ds.length = n
  · rw [if_pos z] at h; exact ⟨z, h⟩
  · rw [if_neg z] at h; cases h
theorem de_call (F : FnOk X.prog X.w X.K X.mg X.base CX0 k f fd ps (spD cs m n)) (hr : Room k X.A) (hm : X.mg x = some (.ref f)) (hk : PySem.W.keepIn X.K (.ref f) = true) (hb : Binds X.K fd ps []) (ha : PA X (e :: es) (tDA cs fs)) (hg : Gl X x := by rfl)
    (hdb : (x == ("__debug__" : Str)) = false := by decide) (he : starEach (e :: es) X.env = (false, eval e X.env) :: starEach es X.env := by rfl) (hpl : (backTo pos (starEach es X.env)).any (·.1) = false := by rfl) :
    PE X (.Call (.Name x p) (e :: es) [] pos) (tD cs (fS (gN n m) fs)) := PE.imp (pe_call F hr hg hm hk hb .nil pass0 ha hdb he hpl) fun σ H Q h => tD_args (k := fun vs H1 Q => spD cs m n (vs ++ []) H1 Q E0) (fun G H vs ds c Q w r e k => by
  obtain ⟨z1, z2⟩ := gN_inv e
  rw [List.append_nil]
  exact ⟨by rw [r.length]; exact z1, G, ds, c, w, r, z2, k⟩) h
end
end DL

/-! Dl3: statements, loops, comprehensions, defs. -/
namespace DL
open PySem PySem.Spec PyProof.Rows L2

/-! ### what a statement gives -/
inductive Fl where
  | nx (env : SE)
  | rt (s : Slot)
  | bk (env : SE)
  | ct (env : SE)
abbrev Fb := SE → Option Fl
def EndD (cs : Cs) (G0 H0 G : Hp) (D : Ends) : Fl → Prop
  | .nx env' => ∀ G' H' σ', Ext cs G0 H0 G' H' → Gle G G' → EnvR H0 G' H' σ' env' → D.nx σ' H'
  | .rt s => ∀ G' H' v, Ext cs G0 H0 G' H' → SlotR H0 G' H' (some (some v)) s → D.rt v H'
  | .bk env' => ∀ G' H' σ', Ext cs G0 H0 G' H' → Gle G G' → EnvR H0 G' H' σ' env' → D.bk σ' H'
  | .ct env' => ∀ G' H' σ', Ext cs G0 H0 G' H' → Gle G G' → EnvR H0 G' H' σ' env' → D.ct σ' H'
def tDS (cs : Cs) (f : Fb) : TS := fun D σ H => ∃ G0 H0 G env r, Ext cs G0 H0 G H ∧ EnvR H0 G H σ env ∧ f env = some r ∧ EndD cs G0 H0 G D r
theorem EndD.mono {cs : Cs} {G0 H0 G G1 : Hp} {D : Ends} {r : Fl} (k : Gle G G1) (h : EndD cs G0 H0 G D r) : EndD cs G0 H0 G1 D r := by
  cases r with
  | nx env => exact fun G' H' σ' x g e => h G' H' σ' x (k.trans g) e
  | rt d => exact h
  | bk env => exact fun G' H' σ' x g e => h G' H' σ' x (k.trans g) e
  | ct env => exact fun G' H' σ' x g e => h G' H' σ' x (k.trans g) e
def flThen (r : Fl) (g : Fb) : Option Fl := match r with
  | .nx e => g e
  | .rt d => some (.rt d)
  | .bk e => some (.bk e)
  | .ct e => some (.ct e)
def bSeq (f g : Fb) : Fb := fun env => (f env).bind fun r => flThen r g
def bNx : Fb := fun env => some (.nx env)
section
variable {X : Cx} {cs : Cs} {pos : Pos} {st : Stmt} {rest : List Stmt} {f g : Fb} {e : Expr} {fe : Fe}
theorem ds_nil : PSs X [] (tDS cs bNx) := PSs.imp pss_nil fun D σ H h => by
  obtain ⟨G0, H0, G, env, r, x, er, e, q⟩ := h
  cases e
  exact q G H σ x (Gle.refl _) er
theorem ds_one (h : PS X st (tDS cs f)) : PSs X [st] (tDS cs f) := pss_one h
theorem ds_cons (h1 : PS X st (tDS cs f)) (h2 : PSs X rest (tDS cs g)) : PSs X (st :: rest) (tDS cs (bSeq f g)) := PSs.imp (pss_cons h1 h2) fun D σ H h => by
  obtain ⟨G0, H0, G, env, r, x, er, e, q⟩ := h
  unfold bSeq at e
  cases ef : f env with
  | none => rw [ef] at e; cases e
  | some r1 =>
    rw [ef] at e
    have e1 : flThen r1 g = some r := e
    refine ⟨G0, H0, G, env, r1, x, er, ef, ?_⟩
    cases r1 with
    | nx env1 => exact fun G' H' σ' x' k er' => ⟨G0, H0, G', env1, r, x', er', e1, q.mono k⟩
    | rt d => cases e1; exact q
    | bk env1 => cases e1; exact q
    | ct env1 => cases e1; exact q
theorem ds_pass : PS X (.Pass pos) (tDS cs bNx) := PS.imp ps_pass fun D σ H h => by
  obtain ⟨G0, H0, G, env, r, x, er, e, q⟩ := h
  cases e
  exact q G H σ x (Gle.refl _) er
/-- a statement that is never come to -/
theorem ds_never : PS X st (tDS cs fun _ => none) := PS.imp ps_never fun D σ H h => by
  obtain ⟨G0, H0, G, env, r, x, er, e, q⟩ := h
  cases e
theorem dss_never : PSs X rest (tDS cs fun _ => none) := PSs.imp pss_never fun D σ H h => by
  obtain ⟨G0, H0, G, env, r, x, er, e, q⟩ := h
  cases e
def bRet (fe : Fe) : Fb := fun env => (fe env).bind fun d => some (.rt (.dat d))
theorem ds_ret (he : PE X e (tD cs fe)) : PS X (.Return (some e) pos) (tDS cs (bRet fe)) := PS.imp (ps_ret he) fun D σ H h => by
  obtain ⟨G0, H0, G, env, r, x, er, e, q⟩ := h
  unfold bRet at e
  cases ef : fe env with
  | none => rw [ef] at e; cases e
  | some d =>
    rw [ef] at e
    cases e
    exact ⟨H0, G, env, d, x.wd, er, ef, fun G' H' v x' rv => q G' H' v (x.trans x') ⟨v, rfl, rv⟩⟩
def bIf (tc : Ft) (f g : Fb) : Fb := fun env => (tc env).bind fun b => if b = true then f env else g env
theorem ds_if {c : Expr} {a b : List Stmt} {tc : Ft} (hc : PT X c (tDT cs tc)) (ha : PSs X a (tDS cs f)) (hb : PSs X b (tDS cs g)) : PS X (.If c a b pos) (tDS cs (bIf tc f g)) := PS.imp (ps_if hc ha hb) fun D σ H h => by
  obtain ⟨G0, H0, G, env, r, x, er, e, q⟩ := h
  unfold bIf at e
  cases ef : tc env with
  | none => rw [ef] at e; cases e
  | some b1 =>
    rw [ef] at e
    refine ⟨H0, G, env, b1, x.wd, er, ef, fun G1 H1 x1 => ?_⟩
    cases b1 with
    | true => exact iteT ⟨G0, H0, G1, env, r, x.trans x1, er.ext x.wd x1, e, q.mono x1.old⟩
    | false => exact iteF ⟨G0, H0, G1, env, r, x.trans x1, er.ext x.wd x1, e, q.mono x1.old⟩
/-! name = e -/
def bSet (i : Nat) (fe : Fe) : Fb := fun env => (fe env).bind fun d => some (.nx (env.set i (.dat d)))
theorem tDS_set {i : Nat} {σ : L2.St} {H : Hp} {D : Ends} (h : tDS cs (bSet i fe) D σ H) : tAsg (tD cs fe) (gName i) D σ H := by
  obtain ⟨G0, H0, G, env, r, x, er, e, q⟩ := h
  unfold bSet at e
  cases ef : fe env with
  | none => rw [ef] at e; cases e
  | some d =>
    rw [ef] at e
    cases e
    exact ⟨H0, G, env, d, x.wd, er, ef, fun G' H' v x' rv => q G' H' _ (x.trans x') x'.old ((er.ext x.wd x').set rfl ⟨v, rfl, rv⟩)⟩
theorem ds_set (i : Nat) {x : Str} {pos' : Pos} (he : PE X e (tD cs fe)) (hN : X.N.Nodup) (hi : X.N[i]? = some x := by rfl) (hx : Loc X.env.scope x := by first | exact Or.inl rfl | exact Or.inr rfl) (hs : swapsWith e (some (.Name x pos')) pos.line X.env = pure false := by rfl) (hf : X.fn x = true ∨ X.env.scope.names.lookup x = some .local := by first | exact .inl rfl | exact .inr rfl) :
    PS X (.Assign [.Name x pos'] e pos) (tDS cs (bSet i fe)) := PS.imp (ps_set hN hi hx he hs hf) fun _ _ _ h => tDS_set h
/-! a, b = x, y, plain local names -/
def bPar (i j : Nat) (fa fb : Fe) : Fb := fun env => (fa env).bind fun d => (fb env).bind fun d' => some (.nx ((env.set i (.dat d)).set j (.dat d')))
end

/-! ### own lists -/
/-- the own list at slot i from now on stands still -/
def frz (i : Nat) (env : SE) : SE := match env[i]? with
  | some (.own xs) => env.set i (.dat (.list xs))
  | _ => env
section
variable {cs : Cs} {G0 H0 G H : Hp} {σ : L2.St} {env : SE} {i : Nat}
theorem ext_frz {a : Addr} {vs : List V} (x : Ext cs G0 H0 G H) (h0 : H0 a = none) (g : G a = none) (h : H a = some (.lst vs)) : Ext cs G0 H0 (upd G a (.lst vs)) H := by
  have nt : ¬ Tab cs a := x.wd.notTab_of h fun ps z => by cases z
  refine ⟨⟨fun b o e => ?_, x.wd.tab, fun b t => ?_⟩, x.keep, x.old.trans (Gle.upd g), fun b e n => ?_⟩
  · by_cases hb : b = a
    · subst hb; rw [upd_same] at e; rw [h]; exact e
    · rw [upd_ne hb] at e; exact x.wd.sub _ _ e
  · have hb : b ≠ a := fun z => nt (z ▸ t)
    rw [upd_ne hb]; exact x.wd.out b t
  · have hb : b ≠ a := fun z => n (z ▸ h0)
    rw [upd_ne hb]; exact x.new b e n
theorem env_frz (x : Ext cs G0 H0 G H) (er : EnvR H0 G H σ env) : ∃ G', Ext cs G0 H0 G' H ∧ Gle G G' ∧ EnvR H0 G' H σ (frz i env) := by
  have same : frz i env = env → ∃ G', Ext cs G0 H0 G' H ∧ Gle G G' ∧ EnvR H0 G' H σ (frz i env) := fun e => ⟨G, x, Gle.refl _, by rw [e]; exact er⟩
  cases q : env[i]? with
  | none => exact same (by unfold frz; rw [q])
  | some s =>
    cases s with
    | own xs =>
      obtain ⟨a, vs, e1, h0, g, h, r⟩ := er.at_ i _ q
      have hi : i < env.length := (List.getElem?_eq_some_iff.mp q).1
      refine ⟨upd G a (.lst vs), ext_frz x h0 g h, Gle.upd g, ?_⟩
      have ef : frz i env = env.set i (.dat (.list xs)) := by unfold frz; rw [q]
      rw [ef]
      have kx : Gle G (upd G a (.lst vs)) := Gle.upd g
      refine ⟨by rw [List.length_set]; exact er.len, fun j s e => ?_, fun j k s t b ne e1' o1 e2' o2 f1 f2 => ?_⟩
      · by_cases hj : i = j
        · subst hj
          rw [List.getElem?_set_self hi] at e
          cases e
          exact ⟨.ref a, e1, .lst upd_same (r.mono kx)⟩
        · rw [List.getElem?_set_ne hj] at e
          have z := er.at_ j s e
          cases s with
          | no => trivial
          | dat d => obtain ⟨y, y1, y2⟩ := z; exact ⟨y, y1, y2.mono kx⟩
          | own ys =>
            obtain ⟨b, ws, z1, z2, z3, z4, z5⟩ := z
            have hb : b ≠ a := fun w => er.dis i j _ _ a hj q rfl e rfl e1 (by rw [z1, w])
            exact ⟨b, ws, z1, z2, by rw [upd_ne hb]; exact z3, z4, z5.mono kx⟩
          | ownD ys =>
            obtain ⟨b, ws, z1, z2, z3, z4, z5⟩ := z
            have hb : b ≠ a := fun w => er.dis i j _ _ a hj q rfl e rfl e1 (by rw [z1, w])
            exact ⟨b, ws, z1, z2, by rw [upd_ne hb]; exact z3, z4, z5.mono kx⟩
      · have hj : i ≠ j := fun z => by
          subst z
          rw [List.getElem?_set_self hi] at e1'
          cases e1'
          cases o1
        have hk : i ≠ k := fun z => by
          subst z
          rw [List.getElem?_set_self hi] at e2'
          cases e2'
          cases o2
        rw [List.getElem?_set_ne hj] at e1'
        rw [List.getElem?_set_ne hk] at e2'
        exact er.dis j k s t b ne e1' o1 e2' o2 f1 f2
    | _ => exact same (by unfold frz; rw [q])
/-- an own list changes -/
theorem env_own {xs ys : List PyData} {vs ws : List V} {a : Addr} (x : Ext cs G0 H0 G H) (er : EnvR H0 G H σ env) (q : env[i]? = some (.own xs)) (e1 : σ[i]? = some (some (V.ref a))) (h0 : H0 a = none) (g : G a = none) (h : H a = some (.lst vs)) (r : RpAll G ws ys) :
    Ext cs G0 H0 G (upd H a (.lst ws)) ∧ EnvR H0 G (upd H a (.lst ws)) σ (env.set i (.own ys)) := by
  have nt : ¬ Tab cs a := x.wd.notTab_of h fun ps z => by cases z
  have hi : i < env.length := (List.getElem?_eq_some_iff.mp q).1
  refine ⟨⟨⟨fun b o e => ?_, fun b t => ?_, x.wd.out⟩, fun b o e t => ?_, x.old, x.new⟩, ⟨by rw [List.length_set]; exact er.len, fun j s e => ?_, fun j k s t b ne e1' o1 e2' o2 f1 f2 => ?_⟩⟩
  · have hb : b ≠ a := fun z => by rw [z, g] at e; cases e
    rw [upd_ne hb]; exact x.wd.sub _ _ e
  · have hb : b ≠ a := fun z => nt (z ▸ t)
    obtain ⟨ps, e2, q2⟩ := x.wd.tab b t
    exact ⟨ps, by rw [upd_ne hb]; exact e2, q2⟩
  · have hb : b ≠ a := fun z => by rw [z, h0] at e; cases e
    rw [upd_ne hb]; exact x.keep _ _ e t
  · by_cases hj : i = j
    · subst hj
      rw [List.getElem?_set_self hi] at e
      cases e
      exact ⟨a, ws, e1, h0, g, upd_same, r⟩
    · rw [List.getElem?_set_ne hj] at e
      have z := er.at_ j s e
      cases s with
      | no => trivial
      | dat d => exact z
      | own zs =>
        obtain ⟨b, us, z1, z2, z3, z4, z5⟩ := z
        have hb : b ≠ a := fun w => er.dis i j _ _ a hj q rfl e rfl e1 (by rw [z1, w])
        exact ⟨b, us, z1, z2, z3, by rw [upd_ne hb]; exact z4, z5⟩
      | ownD zs =>
        obtain ⟨b, us, z1, z2, z3, z4, z5⟩ := z
        have hb : b ≠ a := fun w => er.dis i j _ _ a hj q rfl e rfl e1 (by rw [z1, w])
        exact ⟨b, us, z1, z2, z3, by rw [upd_ne hb]; exact z4, z5⟩
  · have up : ∀ (l : Nat) (s : Slot), (env.set i (.own ys))[l]? = some s → isOwn s = true → ∃ s', env[l]? = some s' ∧ isOwn s' = true := fun l s e o => by
      by_cases hl : i = l
      · subst hl; exact ⟨_, q, rfl⟩
      · rw [List.getElem?_set_ne hl] at e; exact ⟨s, e, o⟩
    obtain ⟨s', s1, s2⟩ := up j s e1' o1
    obtain ⟨t', t1, t2⟩ := up k t e2' o2
    exact er.dis j k s' t' b ne s1 s2 t1 t2 f1 f2
/-- a new own list -/
theorem env_new {p : Addr} (x : Ext cs G0 H0 G H) (er : EnvR H0 G H σ env) (hp : H p = none) : Ext cs G0 H0 G (upd H p (.lst [])) ∧ EnvR H0 G (upd H p (.lst [])) (σ.set i (some (V.ref p))) (env.set i (.own [])) := by
  have x1 := Ext.laidOwn (o := .lst []) x.wd hp
  have er1 := er.ext x.wd x1
  have nt := x.wd.notTab_none hp
  have h0 : H0 p = none := by
    cases z : H0 p with
    | none => rfl
    | some u => rw [x.keep _ _ z nt] at hp; cases hp
  have old : ∀ (j : Nat) (s : Slot) (a : Addr), env[j]? = some s → isOwn s = true → σ[j]? = some (some (V.ref a)) → a ≠ p := fun j s a e o f w => by
    subst w
    have z := er.at_ j s e
    cases s with
    | own zs => obtain ⟨b, us, z1, _, _, z4, _⟩ := z; rw [f] at z1; cases z1; rw [hp] at z4; cases z4
    | ownD zs => obtain ⟨b, us, z1, _, _, z4, _⟩ := z; rw [f] at z1; cases z1; rw [hp] at z4; cases z4
    | _ => cases o
  refine ⟨x.trans x1, ⟨by rw [List.length_set, List.length_set]; exact er.len, fun j s e => ?_, fun j k s t b ne e1 o1 e2 o2 f1 f2 => ?_⟩⟩
  · by_cases hj : i = j
    · subst hj
      have hi : i < env.length := by
        have := (List.getElem?_eq_some_iff.mp e).1
        rwa [List.length_set] at this
      rw [List.getElem?_set_self hi] at e
      cases e
      rw [List.getElem?_set_self (by rw [er.len]; exact hi)]
      exact ⟨p, [], rfl, h0, x.wd.free hp, upd_same, .nil⟩
    · rw [List.getElem?_set_ne hj] at e ⊢
      exact er1.at_ j s e
  · by_cases hj : i = j
    · have hk : i ≠ k := fun z => ne (hj.symm.trans z)
      subst hj
      have hi : i < env.length := by
        have := (List.getElem?_eq_some_iff.mp e1).1
        rwa [List.length_set] at this
      rw [List.getElem?_set_self (by rw [er.len]; exact hi)] at f1
      cases f1
      rw [List.getElem?_set_ne hk] at e2 f2
      exact old k t p e2 o2 f2 rfl
    · rw [List.getElem?_set_ne hj] at e1 f1
      by_cases hk : i = k
      · subst hk
        have hi : i < env.length := by
          have := (List.getElem?_eq_some_iff.mp e2).1
          rwa [List.length_set] at this
        rw [List.getElem?_set_self (by rw [er.len]; exact hi)] at f2
        cases f2
        exact old j s p e1 o1 f1 rfl
      · rw [List.getElem?_set_ne hk] at e2 f2
        exact er.dis j k s t b ne e1 o1 e2 o2 f1 f2
end
section
variable {X : Cx} {cs : Cs} {pos : Pos} {st : Stmt} {rest : List Stmt} {f g : Fb} {e : Expr} {fe : Fe}
def bFrz (i : Nat) (f : Fb) : Fb := fun env => f (frz i env)
theorem tDS_frz {i : Nat} {D : Ends} {σ : L2.St} {H : Hp} (h : tDS cs (bFrz i f) D σ H) : tDS cs f D σ H := by
  obtain ⟨G0, H0, G, env, r, x, er, e, q⟩ := h
  obtain ⟨G', x', k, er'⟩ := env_frz (i := i) x er
  exact ⟨G0, H0, G', _, r, x', er', e, q.mono k⟩
/-- ahead of a statement the own list at i is made a plain one -/
theorem ds_frz (i : Nat) (h : PS X st (tDS cs f)) : PS X st (tDS cs (bFrz i f)) := PS.imp h fun _ _ _ => tDS_frz
theorem dss_frz (i : Nat) (h : PSs X rest (tDS cs f)) : PSs X rest (tDS cs (bFrz i f)) := PSs.imp h fun _ _ _ => tDS_frz
/-- x = [] -/
def bNew (i : Nat) : Fb := fun env => some (.nx (env.set i (.own [])))
theorem ds_new (i : Nat) {x : Str} {pos' p2 : Pos} (hN : X.N.Nodup) (hi : X.N[i]? = some x := by rfl) (hx : Loc X.env.scope x := by first | exact Or.inl rfl | exact Or.inr rfl) (hs : swapsWith (.List [] p2) (some (.Name x pos')) pos.line X.env = pure false := by rfl) (hf : X.fn x = true ∨ X.env.scope.names.lookup x = some .local := by first | exact .inl rfl | exact .inr rfl) :
    PS X (.Assign [.Name x pos'] (.List [] p2) pos) (tDS cs (bNew i)) := PS.imp (ps_set hN hi hx (pe_lst pa_nil) hs hf) fun D σ H h => by
  obtain ⟨G0, H0, G, env, r, x, er, e, q⟩ := h
  cases e
  refine ⟨Nat.zero_le _, fun p hp => ?_⟩
  obtain ⟨x1, er1⟩ := env_new (i := i) x er hp
  exact q _ _ _ x1 (Gle.refl _) er1
/-- x.append(e) -/
def bApp (i : Nat) (fe : Fe) : Fb := fun env => match env[i]? with
  | some (.own xs) => (fe env).bind fun d => if xs.length < 1000 then some (.nx (env.set i (.own (xs ++ [d])))) else none
  | _ => none
theorem ds_app (i : Nat) {x : Str} {px apos cp : Pos} (he : PE X e (tD cs fe)) (hi : X.N[i]? = some x := by rfl) (hv : Vis X.env.scope x := by first | exact Or.inl rfl | exact Or.inr (Or.inl rfl) | exact Or.inr (Or.inr rfl)) (hd : (x == ("__debug__" : Str)) = false := by decide) (hcd : (x == ("__classdict__" : Str)) = false := by decide)
    (hp : PE X (.Call (.Attribute (.Name x px) "append" apos) [e] [] cp) (tBM X.K "list" rAppend (tVar i) (tCons (tD cs fe) tNil)))
    (hs : swapsWith (.Call (.Attribute (.Name x px) "append" apos) [e] [] cp) none pos.line X.env = pure false := by rfl) :
    PS X (.Expr (.Call (.Attribute (.Name x px) "append" apos) [e] [] cp) pos) (tDS cs (bApp i fe)) := PS.imp (ps_expr hp hs) fun D σ H h => by
  obtain ⟨G0, H0, G, env, r, x, er, e, q⟩ := h
  unfold bApp at e
  cases ei : env[i]? with
  | none => rw [ei] at e; cases e
  | some s =>
    rw [ei] at e
    cases s with
    | own xs =>
      have e1 : ((fe env).bind fun d => if xs.length < 1000 then some (Fl.nx (env.set i (.own (xs ++ [d])))) else none) = some r := e
      cases ef : fe env with
      | none => rw [ef] at e1; cases e1
      | some d =>
        rw [ef] at e1
        have e2 : (if xs.length < 1000 then some (Fl.nx (env.set i (.own (xs ++ [d])))) else none) = some r := e1
        by_cases z : xs.length < 1000
        · rw [if_pos z] at e2
          cases e2
          obtain ⟨a, vs, s1, h0, g, h, r⟩ := er.at_ i _ ei
          refine ⟨.ref a, s1, .inl ⟨rfl, vs, SqL.of h⟩, ?_⟩
          refine ⟨H0, G, env, d, x.wd, er, ef, fun G1 H1 v x1 rv => ?_⟩
          have er1 := er.ext x.wd x1
          obtain ⟨a', vs', s1', h0', g', h', r'⟩ := er1.at_ i _ ei
          rw [s1] at s1'
          cases s1'
          obtain ⟨x2, er2⟩ := env_own (i := i) (ws := vs' ++ [v]) (ys := xs ++ [d]) (x.trans x1) er1 ei s1 h0' g' h' (r'.append (.cons rv .nil))
          exact ⟨a, vs', v, rfl, rfl, h', by rw [r'.length]; exact small1000 (by omega), q _ _ _ x2 x1.old er2⟩
        · rw [if_neg z] at e2
          cases e2
    | _ => cases e
end

theorem EnvR.setD {H0 G H : Hp} {σ : L2.St} {env : SE} {v : V} {d : PyData} (er : EnvR H0 G H σ env) (i : Nat) (r : Rp G v d) : EnvR H0 G H (σ.set i (some v)) (env.set i (.dat d)) := er.set (s := .dat d) rfl ⟨v, rfl, r⟩

/-! ### what is walked -/
/-- the turns of J hand out what stands for these, as long as G stands -/
def Yields (cs : Cs) (G : Hp) (J : It) (items : List PyData) : Prop := ∀ G2 H2, Gle G G2 → Wd cs G2 H2 → ∀ i, (i = items.length → J.stop i H2) ∧ ∀ d, items[i]? = some d → J.go i H2 ∧ ∀ x H3, J.yld i H2 x H3 → ∃ G3, Ext cs G2 H2 G3 H3 ∧ Rp G3 x d
def tDI (cs : Cs) (f : Fs) : TI := fun σ H R => ∃ H0 G env items, Wd cs G H ∧ EnvR H0 G H σ env ∧ f env = some items ∧ ∀ G' H' J, Ext cs G H G' H' → Yields cs G' J items → R J H'
def tDG (cs : Cs) (g : PyData → SE → Option SE) : TG := fun v σ H Q => ∃ H0 G d env env', Wd cs G H ∧ EnvR H0 G H σ env ∧ Rp G v d ∧ g d env = some env' ∧ ∀ σ', EnvR H0 G H σ' env' → Q σ' H
def asList : PyData → Option (List PyData)
  | .list xs => some xs
  | _ => none
def asTup : PyData → Option (List PyData)
  | .tuple xs => some xs
  | _ => none
def iSeq (g : PyData → Option (List PyData)) (fe : Fe) : Fs := fun env => (fe env).bind g
def rgD (lo : Int) (n : Nat) : List PyData := (List.range n).map fun k => .int (lo + (k : Nat))
def asRg (d : PyData) : Option (List PyData) := match d with
  | .int j => if -1000 ≤ j ∧ j ≤ 1000 then some (rgD 0 j.toNat) else none
  | _ => none
def iRg2 (fa fb : Fe) : Fs := fun env => (fa env).bind fun a => (fb env).bind fun b => match a, b with
  | .int i, .int j => if -1000 ≤ i ∧ i ≤ 1000 ∧ -1000 ≤ j ∧ j ≤ 1000 then some (rgD i (j - i).toNat) else none
  | _, _ => none
section
variable {X : Cx} {cs : Cs} {pos : Pos} {tg e e2 : Expr} {fe fa fb : Fe}
theorem yields_list {K : PySem.W.Frag} {G : Hp} {a : Addr} {vs : List V} {ds : List PyData} (h : G a = some (.lst vs)) (r : RpAll G vs ds) : Yields cs G (Itl K a) ds := by
  intro G2 H2 k w i
  have h2 : SqL K H2 a vs := SqL.of (w.sub _ _ (k _ _ h))
  refine ⟨fun hi => ⟨vs, h2, by rw [r.length, hi]; exact Nat.le_refl _⟩, fun d hd => ?_⟩
  obtain ⟨v, hv, rv⟩ := r.get hd
  refine ⟨⟨vs, v, h2, hv⟩, fun x H3 y => ?_⟩
  obtain ⟨e, y⟩ := y
  subst e
  have := y vs h2
  rw [hv] at this
  cases this
  exact ⟨G2, Ext.refl w, rv.mono k⟩
theorem yields_tup {K : PySem.W.Frag} {G : Hp} {a : Addr} {vs : List V} {ds : List PyData} (h : G a = some (.tup vs)) (r : RpAll G vs ds) : Yields cs G (Itt K a) ds := by
  intro G2 H2 k w i
  have h2 : SqT K H2 a vs := SqT.of (w.sub _ _ (k _ _ h))
  refine ⟨fun hi => ⟨vs, h2, by rw [r.length, hi]; exact Nat.le_refl _⟩, fun d hd => ?_⟩
  obtain ⟨v, hv, rv⟩ := r.get hd
  refine ⟨⟨vs, v, h2, hv⟩, fun x H3 y => ?_⟩
  obtain ⟨e, y⟩ := y
  subst e
  have := y vs h2
  rw [hv] at this
  cases this
  exact ⟨G2, Ext.refl w, rv.mono k⟩
theorem yields_rg {G : Hp} (lo : Int) (n : Nat) : Yields cs G (Itr lo n) (rgD lo n) := by
  intro G2 H2 k w i
  have hl : (rgD lo n).length = n := by unfold rgD; rw [List.length_map, List.length_range]
  refine ⟨fun hi => by rw [hl] at hi; rw [hi]; exact Nat.le_refl _, fun d hd => ?_⟩
  have hi : i < n := by
    have := (List.getElem?_eq_some_iff.mp hd).1
    rwa [hl] at this
  refine ⟨hi, fun x H3 y => ?_⟩
  obtain ⟨e, y⟩ := y
  subst e y
  have ed : d = .int (lo + (i : Nat)) := by
    unfold rgD at hd
    rw [List.getElem?_map, List.getElem?_range hi] at hd
    exact (Option.some.inj hd).symm
  subst ed
  exact ⟨G2, Ext.refl w, .int _⟩
theorem di_list (he : PE X e (tD cs fe)) : PI X tg e (tDI cs (iSeq asList fe)) := PI.imp (pi_list he) fun σ H R h => by
  obtain ⟨H0, G, env, items, w, r, e, q⟩ := h
  unfold iSeq at e
  cases ef : fe env with
  | none => rw [ef] at e; cases e
  | some d =>
    rw [ef] at e
    cases d with
    | list xs =>
      cases e
      refine ⟨H0, G, env, _, w, r, ef, fun G1 H1 x x1 rx => ?_⟩
      obtain ⟨a, vs, ex, ga, rv⟩ := rx.list_inv
      exact ⟨a, ex, ⟨vs, SqL.of (x1.wd.sub _ _ ga)⟩, q G1 H1 _ x1 (yields_list ga rv)⟩
    | _ => cases e
theorem di_tup (he : PE X e (tD cs fe)) : PI X tg e (tDI cs (iSeq asTup fe)) := PI.imp (pi_tup he) fun σ H R h => by
  obtain ⟨H0, G, env, items, w, r, e, q⟩ := h
  unfold iSeq at e
  cases ef : fe env with
  | none => rw [ef] at e; cases e
  | some d =>
    rw [ef] at e
    cases d with
    | tuple xs =>
      cases e
      refine ⟨H0, G, env, _, w, r, ef, fun G1 H1 x x1 rx => ?_⟩
      obtain ⟨a, vs, ex, ga, rv⟩ := rx.tuple_inv
      exact ⟨a, ex, ⟨vs, SqT.of (x1.wd.sub _ _ ga)⟩, q G1 H1 _ x1 (yields_tup ga rv)⟩
    | _ => cases e
theorem di_rg1 {p : Pos} (hm : X.mg "range" = none) (he : PE X e (tD cs fe)) (hg : Gl X "range" := by rfl) (hs : starEach [e] X.env = [(false, eval e X.env)] := by rfl) : PI X tg (.Call (.Name "range" p) [e] [] pos) (tDI cs (iSeq asRg fe)) :=
  PI.imp (pi_range1 hg hm (da_cons he da_nil hs) hs) fun σ H R h => by
  obtain ⟨H0, G, env, items, w, r, e, q⟩ := h
  unfold iSeq at e
  cases ef : fe env with
  | none => rw [ef] at e; cases e
  | some d =>
    rw [ef] at e
    cases d with
    | int j =>
      have e1 : (if -1000 ≤ j ∧ j ≤ 1000 then some (rgD 0 j.toNat) else none) = some items := e
      by_cases z : -1000 ≤ j ∧ j ≤ 1000
      · rw [if_pos z] at e1
        cases e1
        refine ⟨H0, G, env, [.int j], w, r, ?_, fun G1 H1 vs x1 rv => ?_⟩
        · show ((fe env).bind fun d => (sNil env).bind fun ds => some (d :: ds)) = _
          rw [ef] <;> rfl
        · have ev : vs = [.int j] := by
            cases rv with
            | cons a b => cases b; rw [a.int_inv]
          exact ⟨j, ev, by omega, by omega, q G1 H1 _ x1 (yields_rg 0 j.toNat)⟩
      · rw [if_neg z] at e1
        cases e1
    | _ => cases e
theorem di_rg2 {p : Pos} (hm : X.mg "range" = none) (ha : PE X e (tD cs fa)) (hb : PE X e2 (tD cs fb)) (hg : Gl X "range" := by rfl) (hs : starEach [e, e2] X.env = [(false, eval e X.env), (false, eval e2 X.env)] := by rfl) (hs2 : starEach [e2] X.env = [(false, eval e2 X.env)] := by rfl)
    (hs3 : starEach (e :: [e2]) X.env = (false, eval e X.env) :: starEach [e2] X.env := by rfl) :
    PI X tg (.Call (.Name "range" p) [e, e2] [] pos) (tDI cs (iRg2 fa fb)) := PI.imp (pi_range2 hg hm (da_cons ha (da_cons hb da_nil hs2) hs3) hs hs2) fun σ H R h => by
  obtain ⟨H0, G, env, items, w, r, e, q⟩ := h
  unfold iRg2 at e
  cases ea : fa env with
  | none => rw [ea] at e; cases e
  | some d =>
    cases eb : fb env with
    | none => rw [ea, eb] at e; cases e
    | some d2 =>
      rw [ea, eb] at e
      cases d with
      | int i =>
        cases d2 with
        | int j =>
          have e1 : (if -1000 ≤ i ∧ i ≤ 1000 ∧ -1000 ≤ j ∧ j ≤ 1000 then some (rgD i (j - i).toNat) else none) = some items := e
          by_cases z : -1000 ≤ i ∧ i ≤ 1000 ∧ -1000 ≤ j ∧ j ≤ 1000
          · rw [if_pos z] at e1
            cases e1
            refine ⟨H0, G, env, [.int i, .int j], w, r, ?_, fun G1 H1 vs x1 rv => ?_⟩
            · show ((fa env).bind fun d => (((fb env).bind fun d => (sNil env).bind fun ds => some (d :: ds))).bind fun ds => some (d :: ds)) = _
              rw [ea, eb] <;> rfl
            · have ev : vs = [.int i, .int j] := by
                cases rv with
                | cons a b => cases b with | cons c d => cases d; rw [a.int_inv, c.int_inv]
              exact ⟨i, j, ev, ⟨by omega, by omega, by omega, by omega⟩, q G1 H1 _ x1 (yields_rg i (j - i).toNat)⟩
          · rw [if_neg z] at e1
            cases e1
        | _ => cases e
      | _ => cases e
/-! targets -/
def gNm (i : Nat) : PyData → SE → Option SE := fun d env => some (env.set i (.dat d))
def gPr (i j : Nat) : PyData → SE → Option SE := fun d env => match d with
  | .tuple [x, y] => some ((env.set i (.dat x)).set j (.dat y))
  | _ => none
theorem dg_name (i : Nat) {x : Str} (hN : X.N.Nodup) (hi : X.N[i]? = some x := by rfl) (hx : Loc X.env.scope x := by first | exact Or.inl rfl | exact Or.inr rfl) (hf : X.fn x = true ∨ X.env.scope.names.lookup x = some .local := by first | exact .inl rfl | exact .inr rfl) : PG X (.Name x pos) (tDG cs (gNm i)) :=
  PG.imp (pg_name hN hi hx hf) fun v σ H Q h => by
  obtain ⟨H0, G, d, env, env', w, er, r, e, q⟩ := h
  cases e
  exact q _ (er.set rfl ⟨v, rfl, r⟩)
theorem dg_pair (i j : Nat) {x y : Str} {p1 p2 : Pos} {k : Nat} (hN : X.N.Nodup) (hc : X.calm = true := by rfl) (hi : X.N[i]? = some x := by rfl) (hj : X.N[j]? = some y := by rfl) (hx : Loc X.env.scope x := by first | exact Or.inl rfl | exact Or.inr rfl) (hy : Loc X.env.scope y := by first | exact Or.inl rfl | exact Or.inr rfl)
    (hf : X.fn x = true ∨ X.env.scope.names.lookup x = some .local := by first | exact .inl rfl | exact .inr rfl) (hf2 : X.fn y = true ∨ X.env.scope.names.lookup y = some .local := by first | exact .inl rfl | exact .inr rfl) : PG X (.Tuple [.Name x p1, .Name y p2] k pos) (tDG cs (gPr i j)) :=
  PG.imp (pg_tup hc (pgs_cons (pg_name hN hi hx hf) (pgs_cons (pg_name hN hj hy hf2) pgs_nil))) fun v σ H Q h => by
  obtain ⟨H0, G, d, env, env', w, er, r, e, q⟩ := h
  cases d with
  | tuple ds =>
    match ds, e with
    | [a, b], e =>
      have e1 : some ((env.set i (.dat a)).set j (.dat b)) = some env' := e
      cases e1
      obtain ⟨p, vs, ev, gp, rv⟩ := r.tuple_inv
      cases rv with
      | @cons va _ _ _ ra rb => cases rb with
        | @cons vb _ _ _ rb rc =>
          cases rc
          exact ⟨p, [va, vb], ev, SqT.of (w.sub _ _ gp), rfl, va, [vb], rfl, vb, [], rfl, rfl, q _ ((er.setD i ra).setD j rb)⟩
  | _ => cases e
end

/-! ### for -/
def forD (g : PyData → SE → Option SE) (b : Fb) : List PyData → Fb
  | [], env => some (.nx env)
  | d :: ds, env => (g d env).bind fun e1 => (b e1).bind fun r => match r with
    | .nx e2 => forD g b ds e2
    | .ct e2 => forD g b ds e2
    | .bk e2 => some (.nx e2)
    | .rt d => some (.rt d)
def bFor (fi : Fs) (g : PyData → SE → Option SE) (b : Fb) : Fb := fun env => (fi env).bind fun items => forD g b items env
section
variable {X : Cx} {cs : Cs} {pos : Pos} {tg iter : Expr} {body : List Stmt} {fi : Fs} {g : PyData → SE → Option SE} {b : Fb}
theorem forD_cons {d : PyData} {ds : List PyData} {env : SE} {r : Fl} (h : forD g b (d :: ds) env = some r) : ∃ e1 r1, g d env = some e1 ∧ b e1 = some r1 ∧ (match r1 with
    | .nx e2 => forD g b ds e2
    | .ct e2 => forD g b ds e2
    | .bk e2 => some (.nx e2)
    | .rt d => some (.rt d)) = some r := by
  unfold forD at h
  cases eg : g d env with
  | none => rw [eg] at h; cases h
  | some e1 =>
    rw [eg] at h
    have h1 : ((b e1).bind fun r => match r with
      | .nx e2 => forD g b ds e2
      | .ct e2 => forD g b ds e2
      | .bk e2 => some (.nx e2)
      | .rt d => some (.rt d)) = some r := h
    cases eb : b e1 with
    | none => rw [eb] at h1; cases h1
    | some r1 => rw [eb] at h1; exact ⟨e1, r1, rfl, eb, h1⟩
theorem ds_for (hi : PI X tg iter (tDI cs fi)) (hg : PG X tg (tDG cs g)) (hb : PSs X body (tDS cs b)) (hp : PassesOwn (model X.prog X.w) X.A X.env X.xe := by exact PassesOwn.never) (hc : X.calm = true := by rfl) (hs : ∀ x, foldedSetIterable iter X.env x = pure x := by intro _; rfl) :
    PS X (.For tg iter body [] pos) (tDS cs (bFor fi g b)) := PS.imp (ps_for hp hc hi hg hb hs) fun D σ H h => by
  obtain ⟨G0, H0, G, env, r, x, er, e, q⟩ := h
  unfold bFor at e
  cases ef : fi env with
  | none => rw [ef] at e; cases e
  | some items =>
    rw [ef] at e
    have e1 : forD g b items env = some r := e
    refine ⟨H0, G, env, items, x.wd, er, ef, fun G1 H1 J x1 yl => ?_⟩
    refine ⟨fun i m σ2 H2 => i + m = items.length ∧ ∃ G2 env2, Ext cs G0 H0 G2 H2 ∧ Gle G1 G2 ∧ EnvR H0 G2 H2 σ2 env2 ∧ forD g b (items.drop i) env2 = some r,
      ⟨items.length, by omega, G1, env, x.trans x1, Gle.refl _, er.ext x.wd x1, by rw [List.drop_zero]; exact e1⟩, ?_⟩
    rintro i m σ2 H2 ⟨him, G2, env2, x2, k2, er2, e2⟩
    obtain ⟨ys, yg⟩ := yl G2 H2 k2 x2.wd i
    have qq : EndD cs G0 H0 G2 D r := q.mono (x1.old.trans k2)
    by_cases hlt : i < items.length
    · obtain ⟨yg1, yg2⟩ := yg items[i] (List.getElem?_eq_getElem hlt)
      rw [List.drop_eq_getElem_cons hlt] at e2
      obtain ⟨en1, r1, z1, z2, z3⟩ := forD_cons e2
      refine .inr ⟨yg1, fun σ3 H3 => ∃ G3 env3, Ext cs G0 H0 G3 H3 ∧ Gle G2 G3 ∧ EnvR H0 G3 H3 σ3 env3 ∧ forD g b (items.drop (i + 1)) env3 = some r, fun σ3 H3 hN => ?_, fun v H3 hy => ?_⟩
      · obtain ⟨G3, env3, w1, w2, w3, w4⟩ := hN
        exact ⟨m - 1, by omega, by omega, G3, env3, w1, k2.trans w2, w3, w4⟩
      · obtain ⟨G3, x3, rv⟩ := yg2 v H3 hy
        refine ⟨H0, G3, items[i], env2, en1, x3.wd, er2.ext x2.wd x3, rv, z1, fun σ4 er4 => ?_⟩
        refine ⟨G0, H0, G3, en1, r1, x2.trans x3, er4, z2, ?_⟩
        cases r1 with
        | nx e2 => exact fun G' H' σ' x' k' er' => ⟨G', e2, x', x3.old.trans k', er', z3⟩
        | ct e2 => exact fun G' H' σ' x' k' er' => ⟨G', e2, x', x3.old.trans k', er', z3⟩
        | bk e2 =>
          cases z3
          exact fun G' H' σ' x' k' er' => qq G' H' σ' x' (x3.old.trans k') er'
        | rt d => cases z3; exact qq
    · have hl : items.length ≤ i := by omega
      refine .inl ⟨ys (by omega), ?_⟩
      rw [List.drop_eq_nil_of_le hl] at e2
      cases e2
      exact qq G2 H2 σ2 x2 (Gle.refl _) er2
end

/-! ### while True -/
def whD (b : Fb) : Nat → Fb
  | 0, _ => none
  | n + 1, env => (b env).bind fun r => match r with
    | .nx e => whD b n e
    | .ct e => whD b n e
    | .bk e => some (.nx e)
    | .rt d => some (.rt d)
section
variable {X : Cx} {cs : Cs} {pos : Pos} {body : List Stmt} {b : Fb}
theorem ds_while (n : Nat) {j p} (hb : PSs X body (tDS cs b)) (hp : PassesOwn (model X.prog X.w) X.A X.env X.xe := by exact PassesOwn.never) : PS X (.While (.Constant (.bool true) j p) body [] pos) (tDS cs (whD b n)) :=
  PS.imp (ps_while hp (pt_val pe_bl) hb) fun D σ H h => by
  obtain ⟨G0, H0, G, env, r, x, er, e, q⟩ := h
  refine ⟨fun m σ2 H2 => ∃ G2 env2, Ext cs G0 H0 G2 H2 ∧ Gle G G2 ∧ EnvR H0 G2 H2 σ2 env2 ∧ whD b m env2 = some r, ⟨n, G, env, x, Gle.refl _, er, e⟩, ?_⟩
  rintro m σ2 H2 ⟨G2, env2, x2, k2, er2, e2⟩
  refine ⟨true, rfl, iteT ?_⟩
  have qq : EndD cs G0 H0 G2 D r := q.mono k2
  cases m with
  | zero => cases e2
  | succ m =>
    have e3 : ((b env2).bind fun r => match r with
      | .nx e => whD b m e
      | .ct e => whD b m e
      | .bk e => some (.nx e)
      | .rt d => some (.rt d)) = some r := e2
    cases eb : b env2 with
    | none => rw [eb] at e3; cases e3
    | some r1 =>
      rw [eb] at e3
      refine ⟨fun σ3 H3 => ∃ G3 env3, Ext cs G0 H0 G3 H3 ∧ Gle G2 G3 ∧ EnvR H0 G3 H3 σ3 env3 ∧ whD b m env3 = some r, fun σ3 H3 ⟨G3, env3, w1, w2, w3, w4⟩ => ⟨m, Nat.lt_succ_self _, G3, env3, w1, k2.trans w2, w3, w4⟩, ?_⟩
      refine ⟨G0, H0, G2, env2, r1, x2, er2, eb, ?_⟩
      cases r1 with
      | nx e2 => exact fun G' H' σ' x' k' er' => ⟨G', e2, x', k', er', e3⟩
      | ct e2 => exact fun G' H' σ' x' k' er' => ⟨G', e2, x', k', er', e3⟩
      | bk e2 => cases e3; exact fun G' H' σ' x' k' er' => qq G' H' σ' x' k' er'
      | rt d => cases e3; exact qq
end

/-! ### comprehensions over one name -/
def lcOne (i : Nat) (ft : Ft) (fe : Fe) (env : SE) (d : PyData) : Option (List PyData) := (ft (env.set i (.dat d))).bind fun b => if b = true then (fe (env.set i (.dat d))).bind fun y => some [y] else some []
def lcD (i : Nat) (ft : Ft) (fe : Fe) (env : SE) : List PyData → Option (List PyData)
  | [] => some []
  | d :: ds => (lcOne i ft fe env d).bind fun y => (lcD i ft fe env ds).bind fun r => some (y ++ r)
def fLcL (i : Nat) (fi : Fs) (ft : Ft) (fe : Fe) : Fs := fun env => (fi env).bind fun items => (lcD i ft fe (env.set i .no) items).bind fun out => if out.length ≤ 5000 then some out else none
/-- a list of one's own: new, not frozen -/
def tDO (cs : Cs) (f : Fs) : TE := fun σ H Q => ∃ H0 G env xs, Wd cs G H ∧ EnvR H0 G H σ env ∧ f env = some xs ∧ ∀ G' H' a ws, Ext cs G H G' H' → H a = none → G' a = none → H' a = some (.lst ws) → RpAll G' ws xs → Q (.ref a) H'
def fO (f : Fs) : Fe := fun env => (f env).bind fun xs => some (.list xs)
theorem tDO_frz {cs : Cs} {f : Fs} {σ : L2.St} {H : Hp} {Q : VK} (h : tD cs (fO f) σ H Q) : tDO cs f σ H Q := by
  obtain ⟨H0, G, env, d, w, er, e, q⟩ := h
  unfold fO at e
  cases ef : f env with
  | none => rw [ef] at e; cases e
  | some xs =>
    rw [ef] at e
    cases e
    exact ⟨H0, G, env, xs, w, er, ef, fun G' H' a ws x h0 g h r => q _ _ _ (ext_frz x h0 g h) (.lst upd_same (r.mono (Gle.upd g)))⟩
def fLc (i : Nat) (fi : Fs) (ft : Ft) (fe : Fe) : Fe := fO (fLcL i fi ft fe)
def tYesD : Ft := fun _ => some true
section
variable {X : Cx} {cs : Cs} {pos : Pos} {i : Nat} {fi : Fs} {ft : Ft} {fe : Fe}
theorem dts_nil : PTs X [] (tDT cs tYesD) := PTs.imp pts_nil fun σ H Q h => by
  obtain ⟨H0, G, env, b, w, r, e, q⟩ := h
  cases e
  exact q G H (Ext.refl w)
theorem dts_one {c : Expr} (h : PT X c (tDT cs ft)) : PTs X [c] (tDT cs ft) := pts_one h
theorem lcD_cons {env : SE} {d : PyData} {ds out : List PyData} (h : lcD i ft fe env (d :: ds) = some out) : ∃ y r, lcOne i ft fe env d = some y ∧ lcD i ft fe env ds = some r ∧ out = y ++ r := by
  unfold lcD at h
  cases e1 : lcOne i ft fe env d with
  | none => rw [e1] at h; cases h
  | some y =>
    rw [e1] at h
    have h1 : ((lcD i ft fe env ds).bind fun r => some (y ++ r)) = some out := h
    cases e2 : lcD i ft fe env ds with
    | none => rw [e2] at h1; cases h1
    | some r => rw [e2] at h1; cases h1; exact ⟨y, r, rfl, rfl, rfl⟩
theorem set_set_no {env : SE} {s : Slot} : (env.set i s).set i .no = env.set i .no := by
  rw [List.set_set]
theorem tLc_of {σ : L2.St} {H : Hp} {Q : VK} (h : tDO cs (fLcL i fi ft fe) σ H Q) : tLc (tDI cs fi) (gName i) (tDT cs ft) (tD cs fe) [i] σ H Q := by
  obtain ⟨H0, G, env, d, w, er, e, q⟩ := h
  unfold fLcL at e
  cases ef : fi env with
  | none => rw [ef] at e; cases e
  | some items =>
    rw [ef] at e
    have e1 : ((lcD i ft fe (env.set i .no) items).bind fun out => if out.length ≤ 5000 then some out else none) = some d := e
    cases el : lcD i ft fe (env.set i .no) items with
    | none => rw [el] at e1; cases e1
    | some out =>
      rw [el] at e1
      have e2 : (if out.length ≤ 5000 then some out else none) = some d := e1
      have hlen : out.length ≤ 5000 := by
        by_cases z : out.length ≤ 5000
        · exact z
        · rw [if_neg z] at e2; cases e2
      rw [if_pos hlen] at e2
      have ed : out = d := Option.some.inj e2
      subst ed
      refine ⟨H0, G, env, items, w, er, ef, fun G1 H1 J x1 yl D hD => ?_⟩
      have er1 := er.ext w x1
      have erw : EnvR H0 G1 H1 (wipe σ [i]) (env.set i .no) := er1.set rfl trivial
      have xD := Ext.laidOwn (o := .lst []) x1.wd hD
      refine ⟨fun j m H2 => j + m = items.length ∧ ∃ G2 vs as r, Ext cs G1 H1 G2 H2 ∧ G2 D = none ∧ H2 D = some (.lst vs) ∧ RpAll G2 vs as ∧ lcD i ft fe (env.set i .no) (items.drop j) = some r ∧ as ++ r = out,
        ⟨items.length, by omega, G1, [], [], out, xD, x1.wd.free hD, upd_same, .nil, by rw [List.drop_zero]; exact el, rfl⟩, ?_⟩
      rintro j m H2 ⟨him, G2, vs, as, r, x2, gD, hD2, ra, e2, eo⟩
      obtain ⟨ys, yg⟩ := yl G2 H2 x2.old x2.wd j
      by_cases hlt : j < items.length
      · obtain ⟨yg1, yg2⟩ := yg items[j] (List.getElem?_eq_getElem hlt)
        rw [List.drop_eq_getElem_cons hlt] at e2
        obtain ⟨y, r2, z1, z2, z3⟩ := lcD_cons e2
        refine .inr ⟨yg1, fun H3 => ∃ G3 vs as r, Ext cs G1 H1 G3 H3 ∧ G3 D = none ∧ H3 D = some (.lst vs) ∧ RpAll G3 vs as ∧ lcD i ft fe (env.set i .no) (items.drop (j + 1)) = some r ∧ as ++ r = out, fun H3 hN => ?_, fun v H3 hy => ?_⟩
        · exact ⟨m - 1, by omega, by omega, hN⟩
        · obtain ⟨G3, x3, rv⟩ := yg2 v H3 hy
          have x13 := x2.trans x3
          have gD3 : G3 D = none := x3.new D gD (by rw [hD2]; exact Option.some_ne_none _)
          have ntD : ¬ Tab cs D := x2.wd.notTab_of hD2 fun ps z => by cases z
          have hD3 : H3 D = some (.lst vs) := x3.keep D _ hD2 ntD
          have er3 : EnvR H0 G3 H3 ((wipe σ [i]).set i (some v)) ((env.set i .no).set i (.dat items[j])) := (erw.ext x1.wd x13).set rfl ⟨v, rfl, rv⟩
          refine ⟨by show ((σ.set i none).set i (some v)).set i none = σ.set i none; rw [List.set_set, List.set_set], ?_⟩
          unfold lcOne at z1
          cases et : ft ((env.set i .no).set i (.dat items[j])) with
          | none => rw [et] at z1; cases z1
          | some b =>
            rw [et] at z1
            have z4 : (if b = true then (fe ((env.set i .no).set i (.dat items[j]))).bind fun y => some [y] else some []) = some y := z1
            refine ⟨H0, G3, _, b, x3.wd, er3, et, fun G4 H4 x4 => ?_⟩
            have gD4 : G4 D = none := x4.new D gD3 (by rw [hD3]; exact Option.some_ne_none _)
            have hD4 : H4 D = some (.lst vs) := x4.keep D _ hD3 ntD
            cases b with
            | false =>
              rw [if_neg Bool.false_ne_true] at z4
              cases z4
              refine iteF ⟨G4, vs, as, r2, x13.trans x4, gD4, hD4, ra.mono (x3.old.trans x4.old), z2, ?_⟩
              rw [← eo, z3] <;> rfl
            | true =>
              rw [if_pos rfl] at z4
              refine iteT ?_
              cases ee : fe ((env.set i .no).set i (.dat items[j])) with
              | none => rw [ee] at z4; cases z4
              | some dy =>
                rw [ee] at z4
                cases z4
                refine ⟨H0, G4, _, dy, x4.wd, er3.ext x3.wd x4, ee, fun G5 H5 yv x5 ry => ?_⟩
                have gD5 : G5 D = none := x5.new D gD4 (by rw [hD4]; exact Option.some_ne_none _)
                have hD5 : H5 D = some (.lst vs) := x5.keep D _ hD4 ntD
                have ra5 : RpAll G5 vs as := ra.mono (x3.old.trans (x4.old.trans x5.old))
                have x15 := (x13.trans x4).trans x5
                refine ⟨vs, hD5, ?_, G5, vs ++ [yv], as ++ [dy], r2, ⟨⟨fun c o ec => ?_, fun c t => ?_, x15.wd.out⟩, fun c o ec t => ?_, x15.old, x15.new⟩, gD5, upd_same, ra5.append (.cons ry .nil), z2, ?_⟩
                · rw [ra.length]
                  have : (as ++ ([dy] ++ r2)).length ≤ 5000 := by rw [← z3, eo]; exact hlen
                  rw [List.length_append, List.length_append, List.length_singleton] at this
                  rw [sizeLine_eq]; omega
                · have hc : c ≠ D := fun z => by rw [z, gD5] at ec; cases ec
                  rw [upd_ne hc]; exact x15.wd.sub _ _ ec
                · have hc : c ≠ D := fun z => ntD (z ▸ t)
                  obtain ⟨ps, p1, p2⟩ := x15.wd.tab c t
                  exact ⟨ps, by rw [upd_ne hc]; exact p1, p2⟩
                · have hc : c ≠ D := fun z => by rw [z, hD] at ec; cases ec
                  rw [upd_ne hc]; exact x15.keep _ _ ec t
                · rw [← eo, z3, List.append_assoc]
      · have hl : items.length ≤ j := by omega
        refine .inl ⟨ys (by omega), ?_⟩
        rw [List.drop_eq_nil_of_le hl] at e2
        cases e2
        rw [List.append_nil] at eo
        subst eo
        have hD0 : H D = none := by
          cases z : H D with
          | none => rfl
          | some u => rw [x1.keep _ _ z (x1.wd.notTab_none hD)] at hD; cases hD
        exact q _ _ _ _ (x1.trans x2) hD0 gD hD2 ra
theorem de_lc {elt iter : Expr} {x : Str} {px : Pos} {ifs : List Expr} {scope : Scope} (own : List (Str × Nat)) (hown : own.map (·.2) = [i]) (hN : X.N.Nodup) (hi : PI X (.Name x px) iter (tDI cs fi)) (ok : BlkOk X.N X.env.scope scope own)
    (hg : ∀ (s : Shared) (H : Hp) (C : Addr) (cl : List (Str × Addr)) (fp : List Addr), PG (X.blk s H scope (compEnvC scope cl C X.env) fp) (.Name x px) (gName i)) (ht : ∀ (s : Shared) (H : Hp) (C : Addr) (cl : List (Str × Addr)) (fp : List Addr), PTs (X.blk s H scope (compEnvC scope cl C X.env) fp) ifs (tDT cs ft))
    (he : ∀ (s : Shared) (H : Hp) (C : Addr) (cl : List (Str × Addr)) (fp : List Addr), PE (X.blk s H scope (compEnvC scope cl C X.env) fp) elt (tD cs fe)) (hc : X.calm = true := by rfl) (hs : ∀ x, foldedSetIterable iter X.env x = pure x := by intro _; rfl) :
    PE X (.ListComp elt [⟨.Name x px, iter, ifs, 0⟩] scope pos) (tD cs (fLc i fi ft fe)) := PE.imp (pe_lc hc hN hi ok hg ht he hs) fun σ H Q h => by
  rw [hown]
  exact tLc_of (tDO_frz h)
theorem de_lcO {elt iter : Expr} {x : Str} {px : Pos} {ifs : List Expr} {scope : Scope} (own : List (Str × Nat)) (hown : own.map (·.2) = [i]) (hN : X.N.Nodup) (hi : PI X (.Name x px) iter (tDI cs fi)) (ok : BlkOk X.N X.env.scope scope own)
    (hg : ∀ (s : Shared) (H : Hp) (C : Addr) (cl : List (Str × Addr)) (fp : List Addr), PG (X.blk s H scope (compEnvC scope cl C X.env) fp) (.Name x px) (gName i)) (ht : ∀ (s : Shared) (H : Hp) (C : Addr) (cl : List (Str × Addr)) (fp : List Addr), PTs (X.blk s H scope (compEnvC scope cl C X.env) fp) ifs (tDT cs ft))
    (he : ∀ (s : Shared) (H : Hp) (C : Addr) (cl : List (Str × Addr)) (fp : List Addr), PE (X.blk s H scope (compEnvC scope cl C X.env) fp) elt (tD cs fe)) (hc : X.calm = true := by rfl) (hs : ∀ x, foldedSetIterable iter X.env x = pure x := by intro _; rfl) :
    PE X (.ListComp elt [⟨.Name x px, iter, ifs, 0⟩] scope pos) (tDO cs (fLcL i fi ft fe)) := PE.imp (pe_lc hc hN hi ok hg ht he hs) fun σ H Q h => by
  rw [hown]
  exact tLc_of h
/-- name = [..] -/
theorem ds_setLc {y : Str} {py : Pos} (l : Nat) {elt iter : Expr} {x : Str} {px spos : Pos} {ifs : List Expr} {scope : Scope} (own : List (Str × Nat)) (hown : own.map (·.2) = [i]) (hN : X.N.Nodup) (hi : PI X (.Name x px) iter (tDI cs fi)) (ok : BlkOk X.N X.env.scope scope own)
    (hg : ∀ (s : Shared) (H : Hp) (C : Addr) (cl : List (Str × Addr)) (fp : List Addr), PG (X.blk s H scope (compEnvC scope cl C X.env) fp) (.Name x px) (gName i)) (ht : ∀ (s : Shared) (H : Hp) (C : Addr) (cl : List (Str × Addr)) (fp : List Addr), PTs (X.blk s H scope (compEnvC scope cl C X.env) fp) ifs (tDT cs ft))
    (he : ∀ (s : Shared) (H : Hp) (C : Addr) (cl : List (Str × Addr)) (fp : List Addr), PE (X.blk s H scope (compEnvC scope cl C X.env) fp) elt (tD cs fe))
    (hsw : swapsWith (.ListComp elt [⟨.Name x px, iter, ifs, 0⟩] scope pos) (some (.Name y py)) spos.line X.env = pure true) (hy : X.N[l]? = some y := by rfl) (hyl : X.env.scope.names.lookup y = some .local := by rfl) (hc : X.calm = true := by rfl) (hs : ∀ x, foldedSetIterable iter X.env x = pure x := by intro _; rfl) :
    PS X (.Assign [.Name y py] (.ListComp elt [⟨.Name x px, iter, ifs, 0⟩] scope pos) spos) (tDS cs (bSet l (fLc i fi ft fe))) := PS.imp (ps_setLc hc hN hy hyl hsw hi ok hg ht he hs) fun D σ H h => by
  rw [hown]
  have h1 := tDS_set h
  exact tLc_of (tDO_frz h1)
end

/-! ### defs -/
def mk (n N : Nat) (b : Fb) (ds : List PyData) : Option PyData := (b (ds.map .dat ++ List.replicate (N - n) .no)).bind fun r => match r with
  | .rt (.dat d) => some d
  | .nx _ => some .none
  | _ => none
def mkO (n N : Nat) (b : Fb) (ds : List PyData) : Option (List PyData) := (b (ds.map .dat ++ List.replicate (N - n) .no)).bind fun r => match r with
  | .rt (.own xs) => some xs
  | _ => none
theorem start_env {cs : Cs} {G H : Hp} {N : List Str} {vs : List V} {ds : List PyData} (r : RpAll G vs ds) (hl : vs.length ≤ N.length) : EnvR H G H (L2.start N vs) (ds.map .dat ++ List.replicate (N.length - vs.length) .no) := by
  have hlen := r.length
  refine ⟨?_, fun i s e => ?_, fun i j s t a ne e1 o1 e2 o2 f1 f2 => ?_⟩
  · unfold L2.start
    rw [List.length_append, List.length_append, List.length_map, List.length_map, List.length_replicate, List.length_replicate, hlen]
  · by_cases hi : i < ds.length
    · rw [List.getElem?_append_left (by rw [List.length_map]; exact hi), List.getElem?_map, List.getElem?_eq_getElem hi] at e
      cases e
      obtain ⟨v, hv, rv⟩ := r.get (List.getElem?_eq_getElem hi)
      refine ⟨v, ?_, rv⟩
      unfold L2.start
      rw [List.getElem?_append_left (by rw [List.length_map, hlen]; exact hi), List.getElem?_map, hv] <;> rfl
    · rw [List.getElem?_append_right (by rw [List.length_map]; omega), List.getElem?_replicate] at e
      by_cases z : i - (ds.map Slot.dat).length < N.length - vs.length
      · rw [if_pos z] at e; cases e; trivial
      · rw [if_neg z] at e; cases e
  · by_cases hi : i < ds.length
    · rw [List.getElem?_append_left (by rw [List.length_map]; exact hi), List.getElem?_map, List.getElem?_eq_getElem hi] at e1
      cases e1
      cases o1
    · rw [List.getElem?_append_right (by rw [List.length_map]; omega), List.getElem?_replicate] at e1
      by_cases z : i - (ds.map Slot.dat).length < N.length - vs.length
      · rw [if_pos z] at e1; cases e1; cases o1
      · rw [if_neg z] at e1; cases e1
/-- THE RULE for a def over data -/
theorem fn_dat {P : Program} {w : World} {K : PySem.W.Frag} {mg : Str → Option Value} {base : Heap} {cs : Cs} {x qual : Str} {st : Stmt} {f : Addr} {fd : FuncData} {N ps : List Str} {k n : Nat} {b : Fb} (F : FunD K x qual (defArgs st) (defBody st) (defScope st) [] [] f fd) (S : FnScope N ps (defScope st)) (hn : n = ps.length) (hN : n ≤ N.length)
    (hbody : ∀ (cdv : Value) (A : Around) (outer : List PySem.Env) (s : Shared) (H : Hp), fd.code = cdv → Room k (A.deeper (envOfC qual (defScope st) s.heap.objs.size f cdv)) →
      PSs (cxOf CX0 P w K mg base N qual (defScope st) f cdv A outer s H E0).nox (defBody st) (tDS cs b)) : FnOk P w K mg base CX0 (k + 1) f fd ps (spD cs (mk n N.length b) n) := by
  obtain ⟨oc, od, dV, kV, doc, pm, an, cdv, ct, osl, efd, lk, hcd, _, _⟩ := F.ex
  subst efd
  refine fn_of lk hcd S (fun vs H Q E h => h.1.trans hn) (fun A outer s H vs Q E hr h => ?_)
  obtain ⟨hl, G, ds, d, w, r, e, q⟩ := h
  refine ⟨_, (hbody cdv A outer s H rfl hr).nox, ?_⟩
  unfold mk at e
  cases eb : b (ds.map .dat ++ List.replicate (N.length - n) .no) with
  | none => rw [eb] at e; cases e
  | some r1 =>
    rw [eb] at e
    refine ⟨G, H, G, _, r1, Ext.refl w, start_env (cs := cs) r (by rw [hl]; exact hN), by rw [hl]; exact eb, ?_⟩
    cases r1 with
    | rt s =>
      cases s with
      | dat d' =>
        cases e
        exact fun G' H' v x ⟨v', ev, rv⟩ => by cases ev; exact q G' H' v x rv
      | _ => cases e
    | nx env => cases e; exact fun G' H' σ' x k er => q G' H' _ x .non
    | _ => cases e
/-! a def that gives a new list of its own -/
def spO (cs : Cs) (m : List PyData → Option (List PyData)) (n : Nat) : Sp := fun vs H Q _ => vs.length = n ∧ ∃ G ds xs, Wd cs G H ∧ RpAll G vs ds ∧ m ds = some xs ∧ ∀ G' H' a ws, Ext cs G H G' H' → H a = none → G' a = none → H' a = some (.lst ws) → RpAll G' ws xs → Q (.ref a) H'
theorem fn_own {P : Program} {w : World} {K : PySem.W.Frag} {mg : Str → Option Value} {base : Heap} {cs : Cs} {x qual : Str} {st : Stmt} {f : Addr} {fd : FuncData} {N ps : List Str} {k n : Nat} {b : Fb} (F : FunD K x qual (defArgs st) (defBody st) (defScope st) [] [] f fd) (S : FnScope N ps (defScope st)) (hn : n = ps.length) (hN : n ≤ N.length)
    (hbody : ∀ (cdv : Value) (A : Around) (outer : List PySem.Env) (s : Shared) (H : Hp), fd.code = cdv → Room k (A.deeper (envOfC qual (defScope st) s.heap.objs.size f cdv)) →
      PSs (cxOf CX0 P w K mg base N qual (defScope st) f cdv A outer s H E0).nox (defBody st) (tDS cs b)) : FnOk P w K mg base CX0 (k + 1) f fd ps (spO cs (mkO n N.length b) n) := by
  obtain ⟨oc, od, dV, kV, doc, pm, an, cdv, ct, osl, efd, lk, hcd, _, _⟩ := F.ex
  subst efd
  refine fn_of lk hcd S (fun vs H Q E h => h.1.trans hn) (fun A outer s H vs Q E hr h => ?_)
  obtain ⟨hl, G, ds, d, w, r, e, q⟩ := h
  refine ⟨_, (hbody cdv A outer s H rfl hr).nox, ?_⟩
  unfold mkO at e
  cases eb : b (ds.map .dat ++ List.replicate (N.length - n) .no) with
  | none => rw [eb] at e; cases e
  | some r1 =>
    rw [eb] at e
    refine ⟨G, H, G, _, r1, Ext.refl w, start_env (cs := cs) r (by rw [hl]; exact hN), by rw [hl]; exact eb, ?_⟩
    cases r1 with
    | rt s =>
      cases s with
      | own xs =>
        cases e
        exact fun G' H' v x ⟨a, ws, ev, h0, g, h, rv⟩ => by cases ev; exact q G' H' a ws x h0 g h rv
      | _ => cases e
    | _ => cases e
/-- .. is a def as any -/
theorem spO_frz {cs : Cs} {m : List PyData → Option (List PyData)} {n : Nat} {vs : List V} {H : Hp} {Q : VK} {E : XK} (h : spD cs (fun ds => (m ds).bind fun xs => some (.list xs)) n vs H Q E) : spO cs m n vs H Q E := by
  obtain ⟨hl, G, ds, d, w, r, e, q⟩ := h
  have e : ((m ds).bind fun xs => some (PyData.list xs)) = some d := e
  cases em : m ds with
  | none => rw [em] at e; cases e
  | some xs =>
    rw [em] at e
    cases e
    refine ⟨hl, G, ds, xs, w, r, em, fun G' H' a ws x h0 g h rv => ?_⟩
    exact q _ _ _ (ext_frz x h0 g h) (.lst upd_same (rv.mono (Gle.upd g)))
theorem FnOk.imp {P : Program} {w : World} {K : PySem.W.Frag} {mg : Str → Option Value} {base : Heap} {k : Nat} {f : Addr} {fd : FuncData} {ps : List Str} {sp sp' : Sp} (F : FnOk P w K mg base CX0 k f fd ps sp) (h : ∀ vs H Q E, sp' vs H Q E → sp vs H Q E) : FnOk P w K mg base CX0 k f fd ps sp' :=
  ⟨fun vs H Q E z => F.len vs H Q E (h vs H Q E z), fun A outer s H args us vs Q E hr e0 hb r z => F.run A outer s H args us vs Q E hr e0 hb r (h vs H Q E z)⟩
end DL

/-! Dl4: built-ins over data. -/
namespace DL
open PySem PySem.Spec PyProof.Rows L2

/-! ### sorting by insertion -/
def insD (x : PyData) : List PyData → List PyData
  | [] => [x]
  | y :: ys => if PySem.W.dataLt y x = true then y :: insD x ys else x :: y :: ys
def isortD : List PyData → List PyData
  | [] => []
  | x :: xs => insD x (isortD xs)
abbrev leD : PyData → PyData → Bool := PySem.W.dataLe false id
theorem leD_eq (a b : PyData) : leD a b = !PySem.W.dataLt b a := rfl
theorem leD_total : PySem.W.TotalLe leD := PySem.W.sortLe_total _ _ _
theorem insD_mem {x z : PyData} : ∀ {l : List PyData}, z ∈ insD x l → z = x ∨ z ∈ l
  | [], h => by
    have h' : z ∈ [x] := h
    exact .inl (List.mem_singleton.mp h')
  | y :: ys, h => by
    unfold insD at h
    by_cases c : PySem.W.dataLt y x = true
    · rw [if_pos c] at h
      rcases List.mem_cons.mp h with e | e
      · exact .inr (e ▸ List.mem_cons_self)
      · rcases insD_mem e with q | q
        · exact .inl q
        · exact .inr (List.mem_cons_of_mem _ q)
    · rw [if_neg c] at h
      rcases List.mem_cons.mp h with e | e
      · exact .inl e
      · exact .inr e
theorem insD_sorted {x : PyData} : ∀ {l : List PyData}, l.Pairwise (fun a b => leD a b = true) → (insD x l).Pairwise (fun a b => leD a b = true)
  | [], _ => List.pairwise_singleton _ _
  | y :: ys, h => by
    obtain ⟨h1, h2⟩ := List.pairwise_cons.mp h
    unfold insD
    by_cases c : PySem.W.dataLt y x = true
    · rw [if_pos c]
      refine List.pairwise_cons.mpr ⟨fun z hz => ?_, insD_sorted h2⟩
      rcases insD_mem hz with e | e
      · subst e
        rcases leD_total.total y z with q | q
        · exact q
        · rw [leD_eq, c] at q; cases q
      · exact h1 z e
    · rw [if_neg c]
      have hxy : leD x y = true := by rw [leD_eq]; simpa using c
      refine List.pairwise_cons.mpr ⟨fun z hz => ?_, h⟩
      rcases List.mem_cons.mp hz with e | e
      · rw [e]; exact hxy
      · exact leD_total.trans _ _ _ hxy (h1 z e)
theorem insD_filter {x : PyData} (c : PyData) : ∀ l : List PyData, (insD x l).filter (PySem.W.sameRank leD c) = (x :: l).filter (PySem.W.sameRank leD c)
  | [] => rfl
  | y :: ys => by
    unfold insD
    by_cases h : PySem.W.dataLt y x = true
    · rw [if_pos h]
      have ih := insD_filter (x := x) c ys
      simp only [List.filter_cons, ih]
      by_cases p : PySem.W.sameRank leD c x = true
      · by_cases q : PySem.W.sameRank leD c y = true
        · exfalso
          obtain ⟨p1, p2⟩ := Bool.and_eq_true_iff.mp p
          obtain ⟨q1, q2⟩ := Bool.and_eq_true_iff.mp q
          have z := leD_total.trans _ _ _ p2 q1
          rw [leD_eq, h] at z
          cases z
        · simp only [p, q, if_true, if_false, Bool.false_eq_true]
      · simp only [p, if_false, Bool.false_eq_true]
    · rw [if_neg h]
theorem isortD_sorted : ∀ l : List PyData, (isortD l).Pairwise (fun a b => leD a b = true)
  | [] => .nil
  | x :: xs => insD_sorted (isortD_sorted xs)
theorem isortD_filter (c : PyData) : ∀ l : List PyData, (isortD l).filter (PySem.W.sameRank leD c) = l.filter (PySem.W.sameRank leD c)
  | [] => rfl
  | x :: xs => by
    show (insD x (isortD xs)).filter _ = _
    rw [insD_filter, List.filter_cons, isortD_filter c xs, List.filter_cons]
theorem isortD_eq (l : List PyData) : isortD l = l.mergeSort leD := PySem.W.sort_unique leD_total (isortD_sorted l) fun c => isortD_filter c l

/-! ### what is asked of the items -/
def allB (p : PyData → Bool) : List PyData → Bool
  | [] => true
  | x :: xs => p x && allB p xs
theorem allB_mem {p : PyData → Bool} : ∀ {l : List PyData}, allB p l = true → ∀ x ∈ l, p x = true
  | [], _, _, h => nomatch h
  | y :: ys, h, x, hx => by
    obtain ⟨h1, h2⟩ := Bool.and_eq_true_iff.mp h
    rcases List.mem_cons.mp hx with e | e
    · rw [e]; exact h1
    · exact allB_mem h2 x e
def alikeB (l : List PyData) : Bool := allB (fun x => allB (fun y => PySem.W.alike x y) l) l
def tup1 : PyData → Bool
  | .tuple (_ :: _) => true
  | _ => false
def noTup : PyData → Bool
  | .none => false
  | .tuple _ => false
  | _ => true
def notN : PyData → Bool
  | .none => false
  | _ => true
def gSorted : List PyData → Option PyData
  | [.list xs] => if (alikeB xs && ((allB tup1 xs || allB noTup xs) && (allB dep xs && decide (xs.length ≤ 5000)))) = true then some (.list (isortD xs)) else none
  | _ => none
section
variable {X : Cx} {cs : Cs}
theorem each_of {G : Hp} : ∀ {vs : List V} {us : List Value} {ds : List PyData}, Vals vs us → RpAll G vs ds → PySem.W.EachIs (fun u d => ∃ v, RelV v u ∧ Rp G v d) us ds
  | _, _, _, .nil, .nil => .nil
  | _, _, _, .cons r t, .cons a b => .cons ⟨_, r, a⟩ (each_of t b)
theorem each_back {G : Hp} : ∀ {us : List Value} {ds : List PyData}, PySem.W.EachIs (fun u d => ∃ v, RelV v u ∧ Rp G v d) us ds → ∃ vs, Vals vs us ∧ RpAll G vs ds
  | _, _, .nil => ⟨[], .nil, .nil⟩
  | _, _, .cons ⟨v, h1, h2⟩ t => let ⟨vs, h3, h4⟩ := each_back t; ⟨v :: vs, .cons h1 h3, .cons h2 h4⟩
theorem alikeB_ok {xs : List PyData} (h : alikeB xs = true) : PySem.W.AllAlike (xs.map id) := by
  rw [List.map_id]
  intro d hd d' hd'
  exact allB_mem (allB_mem h d hd) d' hd'
theorem sortB_ok {xs : List PyData} (h : (allB tup1 xs || allB noTup xs) = true) : PySem.W.Sortable (xs.map id) := by
  rw [List.map_id]
  rcases Bool.or_eq_true_iff.mp h with h | h
  · refine .inl fun d hd => ?_
    have z := allB_mem h d hd
    cases d with
    | tuple ys => cases ys with
      | nil => cases z
      | cons y r => exact ⟨y, r, rfl⟩
    | _ => cases z
  · refine .inr fun d hd => ?_
    have z := allB_mem h d hd
    cases d with
    | none => cases z
    | tuple ys => cases z
    | _ => exact ⟨(by intro e; cases e), (by intro _ e; cases e)⟩
/-- a rule of a built-in's call by data -/
def rCD (cs : Cs) (g : List PyData → Option PyData) : List V → Hp → VK → Prop := fun vs H Q => ∃ G ds c, Wd cs G H ∧ RpAll G vs ds ∧ g ds = some c ∧ ∀ G' H' v, Ext cs G H G' H' → Rp G' v c → Q v H'
theorem tD_call {fs : Fs} {g : List PyData → Option PyData} {σ : L2.St} {H : Hp} {Q : VK} (h : tD cs (fS g fs) σ H Q) : tCB (rCD cs g) (tDA cs fs) σ H Q :=
  tD_args (k := fun vs H1 Q => rCD cs g vs H1 Q) (fun G H vs ds c Q w r e k => ⟨G, ds, c, w, r, e, k⟩) h
theorem de_callB {id : String} {x : Str} {e : Expr} {es : List Expr} {p pos : Pos} {fs : Fs} {g : List PyData → Option PyData} (hc : CallR X (.builtin id) (rCD cs g)) (hm : X.mg x = none) (hv : bootBuiltins x = some (.builtin id)) (ha : PA X (e :: es) (tDA cs fs)) (hg : Gl X x := by rfl) (hn : x ≠ "__name__" := by decide) (hdb : (x == ("__debug__" : Str)) = false := by decide)
    (he : starEach (e :: es) X.env = (false, eval e X.env) :: starEach es X.env := by rfl) (hpl : (backTo pos (starEach es X.env)).any (·.1) = false := by rfl) : PE X (.Call (.Name x p) (e :: es) [] pos) (tD cs (fS g fs)) :=
  PE.imp (pe_callB hc hg hm hv ha hn hdb he hpl) fun _ _ _ h => tD_call h
theorem de_callTy {T : String} {x : Str} {e : Expr} {es : List Expr} {p pos : Pos} {fs : Fs} {g : List PyData → Option PyData} (hc : CallR X (.type T) (rCD cs g)) (hm : X.mg x = none) (hv : bootBuiltins x = some (.type T)) (ha : PA X (e :: es) (tDA cs fs)) (hg : Gl X x := by rfl) (hn : x ≠ "__name__" := by decide) (hdb : (x == ("__debug__" : Str)) = false := by decide)
    (he : starEach (e :: es) X.env = (false, eval e X.env) :: starEach es X.env := by rfl) (hpl : (backTo pos (starEach es X.env)).any (·.1) = false := by rfl) : PE X (.Call (.Name x p) (e :: es) [] pos) (tD cs (fS g fs)) :=
  PE.imp (pe_callTy hc hg hm hv ha hn hdb he hpl) fun _ _ _ h => tD_call h
theorem RpAll.one_inv {G : Hp} {vs : List V} {d : PyData} (h : RpAll G vs [d]) : ∃ v, vs = [v] ∧ Rp G v d := by
  cases h with
  | cons a b => cases b; exact ⟨_, rfl, a⟩
theorem Vals1 {v : V} {us : List Value} (h : Vals [v] us) : ∃ u, us = [u] ∧ RelV v u := vals1 h
/-- a new list laid at the end -/
theorem laid_list {pins : List (Addr × Obj)} {σ : L2.St} {H G : Hp} {s : Shared} {h' : Heap} {t c : Nat} {a : Addr} {vs : List V} {us : List Value} {ds : List PyData} {Q : VK} (I : Inv X pins σ H s) (w : Wd cs G H) (ha : s.heap.objs.size ≤ a) (k : ∀ b o, s.heap.get? b = some o → h'.get? b = some o)
    (e : h'.get? a = some { cls := .type "list", data := .seq us.toArray c }) (rv : Vals vs us) (rd : RpAll G vs ds) (hl : vs.length ≤ sizeLine) (q : ∀ G' H' v, Ext cs G H G' H' → Rp G' v (.list ds) → Q v H') : EP X pins σ Q (.ref a) { s with heap := h', toks := t } := by
  have hn : H a = none := I.hok.fresh ha
  have x1 := Ext.laid (o := .lst vs) w hn
  have oo : ObjOk X.prog X.w (upd H a (.lst vs)) h' a (.lst vs) := ⟨hl, us, c, rv, e⟩
  exact ⟨.ref a, _, I.laid (t' := t) (o := .lst vs) k ha oo, rfl, q _ _ _ x1 (.lst upd_same (rd.mono x1.old))⟩
theorem cr_sortedD {k : Nat} (hr : Room k X.A) : CallR X (.builtin "sorted") (rCD cs gSorted) := by
  intro pins s σ H vs us Q I rv h
  obtain ⟨G, ds, c, w, rd, e, q⟩ := h
  match ds, e, rd with
  | [.list xs], e, rd =>
    obtain ⟨z, ec⟩ := if_some (show (if (alikeB xs && ((allB tup1 xs || allB noTup xs) && (allB dep xs && decide (xs.length ≤ 5000)))) = true then some (PyData.list (isortD xs)) else none) = some c from e)
    obtain ⟨z1, z⟩ := Bool.and_eq_true_iff.mp z
    obtain ⟨z2, z⟩ := Bool.and_eq_true_iff.mp z
    obtain ⟨z3, z4⟩ := Bool.and_eq_true_iff.mp z
    have z5 : xs.length ≤ 5000 := of_decide_eq_true z4
    subst ec
    obtain ⟨v, rfl, r1⟩ := rd.one_inv
    obtain ⟨u, rfl, ru⟩ := Vals1 rv
    obtain ⟨a, ws, rfl, ga, rw'⟩ := r1.list_inv
    cases ru
    obtain ⟨its, rits, pl, hz⟩ := I.list (SqL.of (w.sub _ _ ga))
    have ea := each_of rits rw'
    refine PySem.W.sorted_data (enc := id) (bs := xs) (R := fun u d => ∃ v, RelV v u ∧ Rp G v d) pl.isList ea (ea.mono fun u d ⟨v, h1, h2⟩ => h2.reads I w.sub h1) (alikeB_ok z1) (sortB_ok z2) (small5000 z5) (fun b hb => ?_) fun out hlen eo => ?_
    · have := dep_le (allB_mem z3 b hb)
      have := hr.units
      show X.A.units + 2 + b.depth < cLine
      omega
    · rw [← isortD_eq] at eo
      obtain ⟨vs', h1, h2⟩ := each_back eo
      obtain ⟨c, hc⟩ := sortedAll_at s.heap its out.toArray
      refine laid_list I w (Nat.le_succ _) (fun b o e => sortedAll_old e) hc h1 h2 ?_ q
      rw [h1.length, hlen]; exact small5000 z5
def gMax : List PyData → Option PyData
  | [.list (x :: xs)] => if (alikeB (x :: xs) && (allB notN (x :: xs) && allB dep (x :: xs))) = true then some (PySem.W.maxD x xs) else none
  | _ => none
theorem depthAll_le : ∀ {xs : List PyData}, allB dep xs = true → PyData.depthAll xs ≤ 60
  | [], _ => Nat.zero_le _
  | x :: xs, h => by
    obtain ⟨h1, h2⟩ := Bool.and_eq_true_iff.mp h
    have := dep_le h1
    have := depthAll_le h2
    show max x.depth (PyData.depthAll xs) ≤ 60
    omega
theorem cr_maxD {k : Nat} (hr : Room k X.A) : CallR X (.builtin "max") (rCD cs gMax) := by
  intro pins s σ H vs us Q I rv h
  obtain ⟨G, ds, c, w, rd, e, q⟩ := h
  match ds, e, rd with
  | [.list (x :: xs)], e, rd =>
    obtain ⟨z, ec⟩ := if_some (show (if (alikeB (x :: xs) && (allB notN (x :: xs) && allB dep (x :: xs))) = true then some (PySem.W.maxD x xs) else none) = some c from e)
    obtain ⟨z1, z⟩ := Bool.and_eq_true_iff.mp z
    obtain ⟨z2, z3⟩ := Bool.and_eq_true_iff.mp z
    subst ec
    obtain ⟨v, rfl, r1⟩ := rd.one_inv
    obtain ⟨u, rfl, ru⟩ := Vals1 rv
    obtain ⟨a, ws, rfl, ga, rw'⟩ := r1.list_inv
    cases ru
    obtain ⟨its, rits, pl, hz⟩ := I.list (SqL.of (w.sub _ _ ga))
    obtain ⟨as, ra⟩ := Dp.readsAll I (x :: xs) ws its (rw'.dp w.sub) rits
    have hd := depthAll_le z3
    have hu := hr.units
    refine PySem.W.max_list_data (vs := its.toArray) hr.hd pl.isList (by simpa using ra) ⟨fun d h1 d' h2 => ?_, fun d h1 e => ?_⟩ (by omega) fun i v h' tk bs hv hr' hk => ?_
    · have q := alikeB_ok z1
      rw [List.map_id] at q
      exact q d h1 d' h2
    · have q := allB_mem z2 d h1
      rw [e] at q
      cases q
    · have hi : i < its.length := by
        have := (Array.getElem?_eq_some_iff.mp hv).1
        simpa using this
      have hi2 : i < (x :: xs).length := by rw [← rw'.length, rits.length]; exact hi
      obtain ⟨y, hy, ry⟩ := rw'.get (List.getElem?_eq_getElem hi2)
      obtain ⟨u, hu', ru⟩ := rits.get hy
      have ev : u = v := by
        have h1 : its.toArray[i]? = its[i]? := by simp
        rw [h1, hu'] at hv
        exact Option.some.inj hv
      subst ev
      obtain ⟨as2, r2⟩ := ry.reads I w.sub ru
      have eq := SeqAt.plain_unique _ _ _ _ _ ry.plain (PyProof.Rows.Reads.keeps hk r2) hr'
      rw [eq] at ry
      exact ⟨y, H, I.kept (t' := tk) hk, ru, q G H y (Ext.refl w) ry⟩
def gLen : List PyData → Option PyData
  | [.list xs] => some (.int xs.length)
  | [.tuple xs] => some (.int xs.length)
  | _ => none
theorem cr_len : CallR X (.builtin "len") (rCD cs gLen) := by
  intro pins s σ H vs us Q I rv h
  obtain ⟨G, ds, c, w, rd, e, q⟩ := h
  match ds, e, rd with
  | [.list xs], e, rd =>
    cases e
    obtain ⟨v, rfl, r1⟩ := rd.one_inv
    obtain ⟨a, ws, rfl, ga, rw'⟩ := r1.list_inv
    exact call_len_seq pins s σ H _ us Q I rv ⟨a, ws, rfl, .inl (SqL.of (w.sub _ _ ga)), by rw [rw'.length]; exact q G H _ (Ext.refl w) (.int _)⟩
  | [.tuple xs], e, rd =>
    cases e
    obtain ⟨v, rfl, r1⟩ := rd.one_inv
    obtain ⟨a, ws, rfl, ga, rw'⟩ := r1.tuple_inv
    exact call_len_seq pins s σ H _ us Q I rv ⟨a, ws, rfl, .inr (SqT.of (w.sub _ _ ga)), by rw [rw'.length]; exact q G H _ (Ext.refl w) (.int _)⟩
def gList : List PyData → Option PyData
  | [.list xs] => some (.list xs)
  | [.tuple xs] => some (.list xs)
  | _ => none
theorem cr_list : CallR X (.type "list") (rCD cs gList) := by
  intro pins s σ H vs us Q I rv h
  obtain ⟨G, ds, c, w, rd, e, q⟩ := h
  match ds, e, rd with
  | [.list xs], e, rd =>
    cases e
    obtain ⟨v, rfl, r1⟩ := rd.one_inv
    obtain ⟨a, ws, rfl, ga, rw'⟩ := r1.list_inv
    refine call_list_of pins s σ H _ us Q I rv ⟨a, ws, rfl, .inl (SqL.of (w.sub _ _ ga)), fun l hl => ?_⟩
    have x1 := Ext.laid (o := .lst ws) w hl
    exact q _ _ _ x1 (.lst upd_same (rw'.mono x1.old))
  | [.tuple xs], e, rd =>
    cases e
    obtain ⟨v, rfl, r1⟩ := rd.one_inv
    obtain ⟨a, ws, rfl, ga, rw'⟩ := r1.tuple_inv
    refine call_list_of pins s σ H _ us Q I rv ⟨a, ws, rfl, .inr (SqT.of (w.sub _ _ ga)), fun l hl => ?_⟩
    have x1 := Ext.laid (o := .lst ws) w hl
    exact q _ _ _ x1 (.lst upd_same (rw'.mono x1.old))
def gTuple : List PyData → Option PyData
  | [.list xs] => some (.tuple xs)
  | [.tuple xs] => some (.tuple xs)
  | _ => none
theorem cr_tuple : CallR X (.type "tuple") (rCD cs gTuple) := by
  intro pins s σ H vs us Q I rv h
  obtain ⟨G, ds, c, w, rd, e, q⟩ := h
  match ds, e, rd with
  | [.list xs], e, rd =>
    cases e
    obtain ⟨v, rfl, r1⟩ := rd.one_inv
    obtain ⟨a, ws, rfl, ga, rw'⟩ := r1.list_inv
    refine call_tuple_of pins s σ H _ us Q I rv ⟨a, ws, rfl, .inl ⟨SqL.of (w.sub _ _ ga), fun l hl => ?_⟩⟩
    have x1 := Ext.laid (o := .tup ws) w hl
    exact q _ _ _ x1 (.tup upd_same (rw'.mono x1.old))
  | [.tuple xs], e, rd =>
    cases e
    obtain ⟨v, rfl, r1⟩ := rd.one_inv
    obtain ⟨a, ws, rfl, ga, rw'⟩ := r1.tuple_inv
    exact call_tuple_of pins s σ H _ us Q I rv ⟨a, ws, rfl, .inr ⟨SqT.of (w.sub _ _ ga), q _ _ _ (Ext.refl w) (.tup ga rw')⟩⟩
def gInt : List PyData → Option PyData
  | [.int i] => some (.int i)
  | [.bool b] => some (.int (if b = true then 1 else 0))
  | _ => none
theorem cr_int : CallR X (.type "int") (rCD cs gInt) := by
  intro pins s σ H vs us Q I rv h
  obtain ⟨G, ds, c, w, rd, e, q⟩ := h
  match ds, e, rd with
  | [.int i], e, rd =>
    cases e
    obtain ⟨v, rfl, r1⟩ := rd.one_inv
    exact call_int1 pins s σ H _ us Q I rv (.inl ⟨i, by rw [r1.int_inv], q _ _ _ (Ext.refl w) (.int _)⟩)
  | [.bool b], e, rd =>
    cases e
    obtain ⟨v, rfl, r1⟩ := rd.one_inv
    exact call_int1 pins s σ H _ us Q I rv (.inr ⟨b, by rw [r1.bl_inv], q _ _ _ (Ext.refl w) (.int _)⟩)
end

/-! ### isinstance -/
def tyD : PyData → String
  | .none => "NoneType"
  | .bool _ => "bool"
  | .int _ => "int"
  | .str _ => "str"
  | .list _ => "list"
  | .tuple _ => "tuple"
  | .dict _ => "dict"
theorem Rp.ty {K : PySem.W.Frag} {G H : Hp} {v : V} {d : PyData} (k : Gle G H) (r : Rp G v d) : TyX K H v (.type (tyD d)) := by
  cases r with
  | non => exact .base .non
  | bl b => exact .base (.bl b)
  | int i => exact .base (.int i)
  | str x => exact .base (.str x)
  | lst e _ => exact .base (.lst (k _ _ e))
  | tup e _ => exact .base (.tup (k _ _ e))
/-- one class -/
structure IsiB (T : String) (p : PyData → Bool) : Prop where
  ok : ∀ d, (∀ kvs, d ≠ .dict kvs) → kitB (tyD d) T = some (p d)
theorem isiB_int : IsiB "int" PyData.isInt := ⟨fun d h => by
  cases d with
  | none => exact (by decide +kernel : kitB "NoneType" "int" = some false)
  | bool _ => exact (by decide +kernel : kitB "bool" "int" = some true)
  | int _ => exact (by decide +kernel : kitB "int" "int" = some true)
  | str _ => exact (by decide +kernel : kitB "str" "int" = some false)
  | list _ => exact (by decide +kernel : kitB "list" "int" = some false)
  | tuple _ => exact (by decide +kernel : kitB "tuple" "int" = some false)
  | dict _ => exact (h _ rfl).elim⟩
theorem isiB_bool : IsiB "bool" PyData.isBool := ⟨fun d h => by
  cases d with
  | none => exact (by decide +kernel : kitB "NoneType" "bool" = some false)
  | bool _ => exact (by decide +kernel : kitB "bool" "bool" = some true)
  | int _ => exact (by decide +kernel : kitB "int" "bool" = some false)
  | str _ => exact (by decide +kernel : kitB "str" "bool" = some false)
  | list _ => exact (by decide +kernel : kitB "list" "bool" = some false)
  | tuple _ => exact (by decide +kernel : kitB "tuple" "bool" = some false)
  | dict _ => exact (h _ rfl).elim⟩
theorem isiB_str : IsiB "str" PyData.isStr := ⟨fun d h => by
  cases d with
  | none => exact (by decide +kernel : kitB "NoneType" "str" = some false)
  | bool _ => exact (by decide +kernel : kitB "bool" "str" = some false)
  | int _ => exact (by decide +kernel : kitB "int" "str" = some false)
  | str _ => exact (by decide +kernel : kitB "str" "str" = some true)
  | list _ => exact (by decide +kernel : kitB "list" "str" = some false)
  | tuple _ => exact (by decide +kernel : kitB "tuple" "str" = some false)
  | dict _ => exact (h _ rfl).elim⟩
theorem isiB_list : IsiB "list" PyData.isList := ⟨fun d h => by
  cases d with
  | none => exact (by decide +kernel : kitB "NoneType" "list" = some false)
  | bool _ => exact (by decide +kernel : kitB "bool" "list" = some false)
  | int _ => exact (by decide +kernel : kitB "int" "list" = some false)
  | str _ => exact (by decide +kernel : kitB "str" "list" = some false)
  | list _ => exact (by decide +kernel : kitB "list" "list" = some true)
  | tuple _ => exact (by decide +kernel : kitB "tuple" "list" = some false)
  | dict _ => exact (h _ rfl).elim⟩
theorem isiB_tuple : IsiB "tuple" PyData.isTuple := ⟨fun d h => by
  cases d with
  | none => exact (by decide +kernel : kitB "NoneType" "tuple" = some false)
  | bool _ => exact (by decide +kernel : kitB "bool" "tuple" = some false)
  | int _ => exact (by decide +kernel : kitB "int" "tuple" = some false)
  | str _ => exact (by decide +kernel : kitB "str" "tuple" = some false)
  | list _ => exact (by decide +kernel : kitB "list" "tuple" = some false)
  | tuple _ => exact (by decide +kernel : kitB "tuple" "tuple" = some true)
  | dict _ => exact (h _ rfl).elim⟩
theorem Rp.nodict {G : Hp} {v : V} {d : PyData} (r : Rp G v d) : ∀ kvs, d ≠ .dict kvs := fun kvs e => by cases r <;> cases e
section
variable {X : Cx} {cs : Cs} {pos p p2 p3 p4 pt : Pos} {e : Expr} {fe : Fe} {H : Hp} {σ : L2.St} {Q : VK}
theorem de_isi {T : String} {t : Str} {pr : PyData → Bool} (hT : IsiB T pr) (hm : X.mg "isinstance" = none) (hmt : X.mg t = none) (hv : bootBuiltins t = some (.type T)) (he : PE X e (tD cs fe)) (hg : Gl X "isinstance" := by rfl) (hgt : Gl X t := by rfl) (hn : t ≠ "__name__" := by decide) (hd : (t == ("__debug__" : Str)) = false := by decide)
    (hs : starEach (e :: [.Name t p2]) X.env = (false, eval e X.env) :: starEach [.Name t p2] X.env := by rfl) : PE X (.Call (.Name "isinstance" p) [e, .Name t p2] [] pos) (tD cs (f1 (fun d => some (.bool (pr d))) fe)) :=
  PE.imp (pe_callB call_isi hg hm boot_isinstance (pa_cons he (pa_cons (pe_bltn hgt hmt hv (v := .ty T) rfl hn hd) pa_nil) hs) (by decide) (by decide) hs) fun σ H Q h => tD_one (k := fun x H1 Q => rIsi X.K [x, .ty T] H1 Q) (fun G H x d c Q w rx ec k => by
    cases ec
    exact ⟨x, .ty T, .type (tyD d), .type T, pr d, rfl, .ty T, rx.ty w.sub, kit_ty (hT.ok d rx.nodict), k G H _ (Ext.refl w) (.bl _)⟩) h
/-- isinstance(e, (tuple, list)) -/
def isSeq (d : PyData) : Bool := d.isTuple || d.isList
theorem kit_seq {K : PySem.W.Frag} (d : PyData) (h : ∀ kvs, d ≠ .dict kvs) : PySem.W.kitAny K (.type (tyD d)) [.type "tuple", .type "list"] = some (isSeq d) := by
  have h1 := kit_ty (K := K) (isiB_tuple.ok d h)
  have h2 := kit_ty (K := K) (isiB_list.ok d h)
  cases d with
  | tuple xs => exact kitAny_cons h1 (fun z => by cases z) fun _ => rfl
  | list xs => exact kitAny_cons h1 (fun _ => kitAny_cons h2 (fun z => by cases z) fun _ => rfl) fun z => by cases z
  | dict kvs => exact absurd rfl (h kvs)
  | _ => exact kitAny_cons h1 (fun _ => kitAny_cons h2 (fun _ => kitAny_nil) fun z => by cases z) fun z => by cases z
theorem de_isiTL (hm : X.mg "isinstance" = none) (hmt : X.mg "tuple" = none) (hml : X.mg "list" = none) (he : PE X e (tD cs fe)) {k : Nat} (hg : Gl X "isinstance" := by rfl) (hgt : Gl X "tuple" := by rfl) (hgl : Gl X "list" := by rfl)
    (hs : starEach (e :: [.Tuple [.Name "tuple" p2, .Name "list" p3] k p4]) X.env = (false, eval e X.env) :: starEach [.Tuple [.Name "tuple" p2, .Name "list" p3] k p4] X.env := by rfl) :
    PE X (.Call (.Name "isinstance" p) [e, .Tuple [.Name "tuple" p2, .Name "list" p3] k p4] [] pos) (tD cs (f1 (fun d => some (.bool (isSeq d))) fe)) :=
  PE.imp (pe_callB call_isiT hg hm boot_isinstance (pa_cons he (pa_cons (pe_tup (pa_cons (pe_bltn hgt hmt boot_tuple (v := .ty "tuple") rfl) (pa_cons (pe_bltn hgl hml boot_list (v := .ty "list") rfl) pa_nil))) pa_nil) hs) (by decide) (by decide) hs) fun σ H Q h =>
    tD_one (k := fun x H1 Q => [V.ty "tuple", .ty "list"].length ≤ sizeLine ∧ ∀ p, H1 p = none → rIsiT X.K [x, .ref p] (upd H1 p (.tup [.ty "tuple", .ty "list"])) Q) (fun G H x d c Q w rx ec k => by
    cases ec
    refine ⟨by show 2 ≤ sizeLine; decide, fun p hp => ?_⟩
    have x1 := Ext.laidOwn (o := .tup [.ty "tuple", .ty "list"]) w hp
    exact ⟨x, p, _, .type (tyD d), _, isSeq d, rfl, upd_same, .cons (.ty _) (.cons (.ty _) .nil), rx.ty (w.sub.trans (Gle.upd hp)), kit_seq d rx.nodict, k _ _ _ x1 (.bl _)⟩) h
end

/-! ### l.index(x) -/
def idxD (d : PyData) : List PyData → Option Nat
  | [] => none
  | y :: ys => if PyData.eqv y d = true then some 0 else (idxD d ys).bind fun j => some (j + 1)
theorem idxD_ok {d : PyData} : ∀ {ys : List PyData} {j : Nat}, idxD d ys = some j → ∃ z, ys[j]? = some z ∧ PyData.eqv z d = true ∧ ∀ (m : Nat) (z' : PyData), m < j → ys[m]? = some z' → PyData.eqv z' d = false
  | [], _, h => by cases h
  | y :: ys, j, h => by
    unfold idxD at h
    by_cases c : PyData.eqv y d = true
    · rw [if_pos c] at h
      cases h
      exact ⟨y, rfl, c, fun m z' hm => absurd hm (Nat.not_lt_zero _)⟩
    · rw [if_neg c] at h
      cases e : idxD d ys with
      | none => rw [e] at h; cases h
      | some k =>
        rw [e] at h
        cases h
        obtain ⟨z, z1, z2, z3⟩ := idxD_ok e
        refine ⟨z, z1, z2, fun m z' hm hz => ?_⟩
        cases m with
        | zero => cases hz; exact Bool.eq_false_iff.mpr c
        | succ m => exact z3 m z' (Nat.lt_of_succ_lt_succ hm) hz
def gIndex : PyData → PyData → Option PyData
  | .list ys, d => if (SeqAt.shaped (.list ys) && SeqAt.shaped d) = true then (idxD d ys).bind fun j => some (.int (j : Nat)) else none
  | _, _ => none
section
variable {X : Cx} {cs : Cs} {o e : Expr} {fo fe : Fe} {apos cpos : Pos}
theorem Rp.dpv {K : PySem.W.Frag} {G H : Hp} {v : V} {d : PyData} (k : Gle G H) (r : Rp G v d) : Dp K H v d := r.dp k
theorem de_index {k : Nat} (hr : Room k X.A) (ho : PE X o (tD cs fo)) (he : PE X e (tD cs fe)) (hbase : attributeBase o "index" X.env (eval o X.env) = eval o X.env := by rfl)
    (hfew : ((backTo cpos (starEach (e :: []) X.env)).all (fun x => !x.1) && (backToKw cpos (keywordEach [] X.env)).all (fun x => x.1.isSome) && decide ((e :: []).length + ([] : List Keyword).length + (if ([] : List Keyword).isEmpty then 0 else 1) < 30)) = true := by rfl)
    (hline : (apos.endLine == cpos.line) = true := by rfl) (hs : starEach (e :: []) X.env = (false, eval e X.env) :: starEach [] X.env := by rfl) : PE X (.Call (.Attribute o "index" apos) [e] [] cpos) (tD cs (b2 gIndex fo fe)) := by
  have hu : X.A.units + 65 < cLine := by have := hr.un; omega
  refine PE.imp (pe_bm PySem.F.plainAttrs_list PySem.F.slot_list_index PySem.F.type_list_index (mt_indexD hu) ho (pa_cons he pa_nil hs) hbase hfew hline hs) fun σ H Q h => ?_
  obtain ⟨H0, G, env, c, w, r, ec, q⟩ := h
  unfold b2 at ec
  cases eo : fo env with
  | none => rw [eo] at ec; cases ec
  | some d1 =>
    cases ee : fe env with
    | none => rw [eo, ee] at ec; cases ec
    | some d2 =>
      rw [eo, ee] at ec
      have e1 : gIndex d1 d2 = some c := ec
      cases d1 with
      | list ys =>
        have e2 : (if (SeqAt.shaped (.list ys) && SeqAt.shaped d2) = true then (idxD d2 ys).bind fun j => some (PyData.int (j : Nat)) else none) = some c := e1
        by_cases z : (SeqAt.shaped (.list ys) && SeqAt.shaped d2) = true
        · rw [if_pos z] at e2
          obtain ⟨z1, z2⟩ := Bool.and_eq_true_iff.mp z
          cases ei : idxD d2 ys with
          | none => rw [ei] at e2; cases e2
          | some j =>
            rw [ei] at e2
            cases e2
            refine ⟨H0, G, env, _, w, r, eo, fun G1 H1 x x1 rx => ?_⟩
            obtain ⟨a, vs, ex, ga, rv⟩ := rx.list_inv
            subst ex
            refine ⟨.inl ⟨rfl, vs, SqL.of (x1.wd.sub _ _ ga)⟩, ?_⟩
            refine ⟨H0, G1, env, d2, x1.wd, r.ext w x1, ee, fun G2 H2 y x2 ry => ?_⟩
            obtain ⟨zz, y1, y2, y3⟩ := idxD_ok ei
            exact ⟨a, y, d2, ys, j, zz, rfl, rfl, (rx.mono x2.old).dp x2.wd.sub, ry.dp x2.wd.sub, z1, z2, y1, y2, y3, q _ _ _ (x1.trans x2) (.int _)⟩
        · rw [if_neg z] at e2
          cases e2
      | _ => cases e1
/-! x.append(e) on an own list -/
theorem ds_append (i : Nat) {x : Str} {px apos cp pos : Pos} (he : PE X e (tD cs fe)) (hi : X.N[i]? = some x := by rfl) (hv : Vis X.env.scope x := by first | exact Or.inl rfl | exact Or.inr (Or.inl rfl) | exact Or.inr (Or.inr rfl)) (hd : (x == ("__debug__" : Str)) = false := by decide) (hcd : (x == ("__classdict__" : Str)) = false := by decide)
    (hbase : attributeBase (.Name x px) "append" X.env (eval (.Name x px) X.env) = eval (.Name x px) X.env := by rfl)
    (hfew : ((backTo cp (starEach (e :: []) X.env)).all (fun x => !x.1) && (backToKw cp (keywordEach [] X.env)).all (fun x => x.1.isSome) && decide ((e :: []).length + ([] : List Keyword).length + (if ([] : List Keyword).isEmpty then 0 else 1) < 30)) = true := by rfl)
    (hline : (apos.endLine == cp.line) = true := by rfl) (hse : starEach (e :: []) X.env = (false, eval e X.env) :: starEach [] X.env := by rfl)
    (hs : swapsWith (.Call (.Attribute (.Name x px) "append" apos) [e] [] cp) none pos.line X.env = pure false := by rfl) : PS X (.Expr (.Call (.Attribute (.Name x px) "append" apos) [e] [] cp) pos) (tDS cs (bApp i fe)) :=
  ds_app i he hi hv hd hcd (pe_bm PySem.F.plainAttrs_list PySem.F.slot_list_append PySem.F.type_list_append mt_append (pe_var hi hv hd hcd) (pa_cons he pa_nil hse) hbase hfew hline hse) hs
end

/-! ### slices of tuples -/
def cutP (xs : List PyData) (lo hi : Option Int) : List PyData := (xs.drop (HT.sIx xs.length 0 lo)).take (HT.sIx xs.length xs.length hi - HT.sIx xs.length 0 lo)
def gTo : PyData → PyData → Option PyData
  | .tuple xs, .int i => some (.tuple (cutP xs none (some i)))
  | _, _ => none
def gFrom : PyData → PyData → Option PyData
  | .tuple xs, .int i => some (.tuple (cutP xs (some i) none))
  | _, _ => none
section
variable {X : Cx} {cs : Cs} {a b : Expr} {fa fb : Fe} {pos p2 : Pos}
theorem rSl_ok {K : PySem.W.Frag} {G H : Hp} {p : Addr} {vs : List V} {ds : List PyData} {lo hi : Option Int} {Q : VK} (w : Wd cs G H) (g : G p = some (.tup vs)) (r : RpAll G vs ds) (k : ∀ G' H' v, Ext cs G H G' H' → Rp G' v (.tuple (cutP ds lo hi)) → Q v H') : rSlA K (.ref p) lo hi H Q := by
  have hl := r.length
  refine ⟨p, vs, rfl, SqT.of (w.sub _ _ g), fun ⟨z1, z2⟩ => ?_, fun _ l hl' => ?_⟩
  · have e : cutP ds lo hi = ds := by
      unfold cutP
      rw [hl] at z1 z2
      rw [z1, z2, List.drop_zero, Nat.sub_zero, List.take_length]
    rw [e] at k
    exact k G H _ (Ext.refl w) (.tup g r)
  · have x1 := Ext.laid (o := .tup (cutV vs lo hi)) w hl'
    have rr : RpAll G (cutV vs lo hi) (cutP ds lo hi) := by
      unfold cutV cutP
      rw [hl]
      exact (r.drop _).take _
    exact k _ _ _ x1 (.tup upd_same (rr.mono x1.old))
theorem de_to (ha : PE X a (tD cs fa)) (hb : PE X b (tD cs fb)) : PE X (.Subscript a (.Slice none (some b) none p2) pos) (tD cs (b2 gTo fa fb)) := PE.imp (pe_slice sl_tupA ha po_none (po_some hb)) fun σ H Q h =>
  tD_op (r := fun x y H Q => ∃ i, y = .int i ∧ rSlA X.K x none (some i) H Q) (g := gTo) (fun G H x y d e c Q w rx ry h k => by
    cases d with
    | tuple xs =>
      cases e with
      | int i =>
        cases h
        obtain ⟨p, vs, rfl, gp, rv⟩ := rx.tuple_inv
        exact ⟨i, ry.int_inv, rSl_ok w gp rv k⟩
      | _ => cases h
    | _ => cases h) h
theorem de_from (ha : PE X a (tD cs fa)) (hb : PE X b (tD cs fb)) : PE X (.Subscript a (.Slice (some b) none none p2) pos) (tD cs (b2 gFrom fa fb)) := PE.imp (pe_slice sl_tupA ha (po_some hb) po_none) fun σ H Q h =>
  tD_op (r := fun x y H Q => ∃ i, y = .int i ∧ rSlA X.K x (some i) none H Q) (g := gFrom) (fun G H x y d e c Q w rx ry h k => by
    cases d with
    | tuple xs =>
      cases e with
      | int i =>
        cases h
        obtain ⟨p, vs, rfl, gp, rv⟩ := rx.tuple_inv
        exact ⟨i, ry.int_inv, rSl_ok w gp rv k⟩
      | _ => cases h
    | _ => cases h) h
end

/-! ### list(range(n)) -/
def gLrg : PyData → Option PyData
  | .int j => if 0 ≤ j ∧ j ≤ 1000 then some (.list (rgD 0 j.toNat)) else none
  | _ => none
section
variable {X : Cx} {cs : Cs} {a : Expr} {fa : Fe} {p p2 pos pos2 : Pos}
theorem rg_rp {G : Hp} (n : Nat) : RpAll G (rgV 0 (n : Int)) (rgD 0 n) := by
  unfold rgV rgD
  have e : ((n : Int) - 0).toNat = n := by omega
  rw [e]
  generalize List.range n = l
  induction l with
  | nil => exact .nil
  | cons x r ih => exact .cons (.int _) ih
theorem de_lrg (hm : X.mg "list" = none) (hmr : X.mg "range" = none) (ha : PE X a (tD cs fa)) (hg : Gl X "list" := by rfl) (hgr : Gl X "range" := by rfl) (hc : X.calm = true := by rfl) (na : starEach [a] X.env = (false, eval a X.env) :: starEach [] X.env := by rfl)
    (nb : starEach [.Call (.Name "range" p2) [a] [] pos2] X.env = (false, eval (.Call (.Name "range" p2) [a] [] pos2) X.env) :: starEach [] X.env := by rfl) : PE X (.Call (.Name "list" p) [.Call (.Name "range" p2) [a] [] pos2] [] pos) (tD cs (f1 gLrg fa)) :=
  PE.imp (pe_listRg hc hg hm (prg_1 hgr hmr ha na) nb) fun σ H Q h => tD_one (k := fun x H1 Q => ∃ n, x = .int n ∧ RgOk 0 n ∧ ∀ q, H1 q = none → Q (.ref q) (upd H1 q (.lst (rgV 0 n)))) (fun G H x d c Q w rx e k => by
    cases d with
    | int j =>
      have e1 : (if 0 ≤ j ∧ j ≤ 1000 then some (PyData.list (rgD 0 j.toNat)) else none) = some c := e
      obtain ⟨z, ec⟩ := if_some e1
      subst ec
      refine ⟨j, rx.int_inv, RgOk.of_le (by omega) (by omega) (by omega) (by omega), fun q hq => ?_⟩
      have x1 := Ext.laid (o := .lst (rgV 0 j)) w hq
      have ej : ((j.toNat : Nat) : Int) = j := by omega
      have rr := rg_rp (G := upd G q (.lst (rgV 0 j))) j.toNat
      rw [ej] at rr
      exact k _ _ _ x1 (.lst upd_same rr)
    | _ => cases e) h
end
/-! ### targets at once -/
def bAsg (fe : Fe) (g : PyData → SE → Option SE) : Fb := fun env => (fe env).bind fun d => (g d env).bind fun e => some (.nx e)
def gTr (i j l : Nat) : PyData → SE → Option SE := fun d env => match d with
  | .tuple [x, y, z] => some (((env.set i (.dat x)).set j (.dat y)).set l (.dat z))
  | _ => none
def bPar3 (i j l : Nat) (fs : Fs) : Fb := fun env => (fs env).bind fun ds => match ds with
  | [x, y, z] => some (.nx (((env.set i (.dat x)).set j (.dat y)).set l (.dat z)))
  | _ => none
def bPar2 (i j : Nat) (fs : Fs) : Fb := fun env => (fs env).bind fun ds => match ds with
  | [x, y] => some (.nx ((env.set i (.dat x)).set j (.dat y)))
  | _ => none
section
variable {X : Cx} {cs : Cs} {tg e : Expr} {fe : Fe} {fs : Fs} {g : PyData → SE → Option SE} {pos : Pos}
theorem ds_asg (he : PE X e (tD cs fe)) (hg : PG X tg (tDG cs g)) (hs : swapsWithSole [tg] e pos.line X.env = pure false := by rfl) (hw : swappedStores [tg] e X.env = pure none := by rfl) (h1 : (assignEach [tg] X.env).map (·.2) = [assign tg X.env] := by rfl) : PS X (.Assign [tg] e pos) (tDS cs (bAsg fe g)) :=
  PS.imp (ps_asg he hg hs hw h1) fun D σ H h => by
  obtain ⟨G0, H0, G, env, r, x, er, e, q⟩ := h
  unfold bAsg at e
  cases ef : fe env with
  | none => rw [ef] at e; cases e
  | some d =>
    rw [ef] at e
    have e1 : ((g d env).bind fun e => some (Fl.nx e)) = some r := e
    cases eg : g d env with
    | none => rw [eg] at e1; cases e1
    | some env' =>
      rw [eg] at e1
      cases e1
      exact ⟨H0, G, env, d, x.wd, er, ef, fun G1 H1 v x1 rv => ⟨H0, G1, d, env, env', x1.wd, er.ext x.wd x1, rv, eg, fun σ' er' => q G1 H1 σ' (x.trans x1) x1.old er'⟩⟩
theorem ds_par2 (i j : Nat) {x y : Str} {a b : Expr} {px py pt : Pos} {kt k2 pt2} (ha : PA X [a, b] (tDA cs fs)) (hN : X.N.Nodup) (hij : i ≠ j := by decide) (hc : X.calm = true := by rfl) (hi : X.N[i]? = some x := by rfl) (hj : X.N[j]? = some y := by rfl) (hx : X.env.scope.names.lookup x = some .local := by rfl) (hy : X.env.scope.names.lookup y = some .local := by rfl)
    (hw : swappedStores [.Tuple [.Name x px, .Name y py] kt pt] (.Tuple [a, b] k2 pt2) X.env = pure (some [x, y]) := by rfl) (hs : swapsWithSole [.Tuple [.Name x px, .Name y py] kt pt] (.Tuple [a, b] k2 pt2) pos.line X.env = pure false := by rfl) :
    PS X (.Assign [.Tuple [.Name x px, .Name y py] kt pt] (.Tuple [a, b] k2 pt2) pos) (tDS cs (bPar2 i j fs)) := PS.imp (ps_par hc hN hi hj hij hx hy ha hw hs) fun D σ H h => by
  obtain ⟨G0, H0, G, env, r, x, er, e, q⟩ := h
  unfold bPar2 at e
  cases ef : fs env with
  | none => rw [ef] at e; cases e
  | some ds =>
    rw [ef] at e
    match ds, e, ef with
    | [d1, d2], e, ef =>
      cases e
      refine ⟨H0, G, env, _, x.wd, er, ef, fun G1 H1 vs x1 rv => ?_⟩
      cases rv with
      | @cons v1 _ _ _ r1 rv => cases rv with
        | @cons v2 _ _ _ r2 rv =>
          cases rv
          exact ⟨v1, v2, rfl, q G1 H1 _ (x.trans x1) x1.old (((er.ext x.wd x1).setD i r1).setD j r2)⟩
theorem ds_par3 (i j l : Nat) {x y z : Str} {a b c : Expr} {px py pz pt : Pos} {kt k2 pt2} (ha : PA X [a, b, c] (tDA cs fs)) (hN : X.N.Nodup) (hij : i ≠ j := by decide) (hil : i ≠ l := by decide) (hjl : j ≠ l := by decide) (hc : X.calm = true := by rfl) (hi : X.N[i]? = some x := by rfl) (hj : X.N[j]? = some y := by rfl) (hl : X.N[l]? = some z := by rfl) (hx : X.env.scope.names.lookup x = some .local := by rfl) (hy : X.env.scope.names.lookup y = some .local := by rfl) (hz : X.env.scope.names.lookup z = some .local := by rfl)
    (hw : swappedStores [.Tuple [.Name x px, .Name y py, .Name z pz] kt pt] (.Tuple [a, b, c] k2 pt2) X.env = pure (some [x, y, z]) := by rfl) (hs : swapsWithSole [.Tuple [.Name x px, .Name y py, .Name z pz] kt pt] (.Tuple [a, b, c] k2 pt2) pos.line X.env = pure false := by rfl) :
    PS X (.Assign [.Tuple [.Name x px, .Name y py, .Name z pz] kt pt] (.Tuple [a, b, c] k2 pt2) pos) (tDS cs (bPar3 i j l fs)) := PS.imp (ps_par3 hc hN hi hj hl hij hil hjl hx hy hz ha hw hs) fun D σ H h => by
  obtain ⟨G0, H0, G, env, r, x, er, e, q⟩ := h
  unfold bPar3 at e
  cases ef : fs env with
  | none => rw [ef] at e; cases e
  | some ds =>
    rw [ef] at e
    match ds, e, ef with
    | [d1, d2, d3], e, ef =>
      cases e
      refine ⟨H0, G, env, _, x.wd, er, ef, fun G1 H1 vs x1 rv => ?_⟩
      cases rv with
      | @cons v1 _ _ _ r1 rv => cases rv with
        | @cons v2 _ _ _ r2 rv => cases rv with
          | @cons v3 _ _ _ r3 rv =>
            cases rv
            exact ⟨v1, v2, v3, rfl, q G1 H1 _ (x.trans x1) x1.old ((((er.ext x.wd x1).setD i r1).setD j r2).setD l r3)⟩
end
end DL

/-! Dl5: enumerate of a tuple; zip of a list and a tuple. -/
namespace DL
open PySem PySem.Spec PyProof.Rows L2

theorem meets_enumT {v : Value} {o : Obj} {B : Heap → Prop} (b : Begins v o B) :
    Meets (Builtin.«enumerate.__new__» ⟨[.type "enumerate", v], []⟩) (fun _ R s => B s.heap ∧
      R (.ok (.ret (.ref (s.heap.push o).objs.size))) { s with heap := (s.heap.push o).push { cls := .type "enumerate", data := .fields #[.none, .bool false, .ref s.heap.objs.size, rawInt 0, .none, .none] } }) :=
  .of_wp fun prog w A R s h => by
    obtain ⟨hp, g, d, tk, os⟩ := s
    obtain ⟨h1, h⟩ := h
    have hsub := sub_enumerate
    have q1 : ∀ {A' : Around} {E : Value → Shared → Prop} {Q : Value → Shared → Prop}, Q (.ref hp.objs.size) ⟨hp.push o, g, d, tk, os⟩ → wpAny (model prog w) A' (pyIter v) Q E ⟨hp, g, d, tk, os⟩ :=
      fun q => b.iter prog w _ _ ⟨hp, g, d, tk, os⟩ _ h1 q
    wp_walk using q1
    refine wpAny_stack_any fun st => wpAny_pure ?_
    split
    · rename_i c _ _ _ _ _
      cases (c == Value.type "enumerate")
      · wp_walk using q1
        exact ⟨_, rfl, h⟩
      · wp_walk using q1
        exact ⟨_, rfl, h⟩
    · wp_walk using q1
      exact ⟨_, rfl, h⟩
section
variable {prog : Program} {w : World} {A : Around} {E : Value → Shared → Prop} {s : Shared}
theorem call_enumT {v : Value} {o : Obj} {B : Heap → Prop} {Q : Value → Shared → Prop} (b : Begins v o B) (h1 : B s.heap)
    (h : ∀ h', IsEnum h' (s.heap.objs.size + 1) s.heap.objs.size 0 .none → h'.get? s.heap.objs.size = some o → (∀ b o, s.heap.get? b = some o → h'.get? b = some o) → Q (.ref (s.heap.objs.size + 1)) { s with heap := h' }) :
    wpAny (model prog w) A (call (.type "enumerate") [v]) Q E s := by
  refine callType_new F.called_enumerate (by decide) (F.typeCall_enumerate_1 _) (F.newCall_enumerate_1 _) (fun obj => F.args_object_init_2 obj _) F.entry_enumerate_new
    (meets_enumT b) ⟨h1, ?_⟩
  have hz : (s.heap.push o).objs.size = s.heap.objs.size + 1 := Heap.size_push ..
  show _ ∧ _
  rw [hz]
  have he : IsEnum ((s.heap.push o).push { cls := .type "enumerate", data := .fields #[.none, .bool false, .ref s.heap.objs.size, rawInt 0, .none, .none] }) (s.heap.objs.size + 1) s.heap.objs.size 0 .none := by
    have z := Heap.get?_push_size (s.heap.push o) (o := { cls := .type "enumerate", data := .fields #[.none, .bool false, .ref s.heap.objs.size, rawInt 0, .none, .none] }) rfl
    rw [hz] at z
    exact z
  exact ⟨⟨_, he, rfl⟩, h _ he (Heap.get?_push_of_some _ (Heap.get?_push_size _ b.free)) fun b o x => Heap.get?_push_of_some _ (Heap.get?_push_of_some _ x)⟩
end
/-- the tuple at a, each item in a new pair with its place -/
def ItEnT (K : PySem.W.Frag) (a : Addr) : It :=
  ⟨fun i H => ∃ (xs : List V) (x : V), SqT K H a xs ∧ xs[i]? = some x, fun i H v H' => ∃ T x, v = .ref T ∧ H T = none ∧ H' = upd H T (.tup [.int (i : Nat), x]) ∧ ∀ xs, SqT K H a xs → xs[i]? = some x, fun i H => ∃ xs : List V, SqT K H a xs ∧ xs.length ≤ i⟩
theorem turn_enT {P : Program} {w : World} {K : PySem.W.Frag} {elts : List Expr} {kk : Nat} {tpos : Pos} (a e it : Addr) :
    Turn P w K (.Tuple elts kk tpos) (ItEnT K a) [e, it] e (fun i h => (∃ old, IsEnum h e it ((i : Nat) : Int) old) ∧ h.IsTupleIter it a i ∧ e ≠ it) where
  mem := by simp
  obj := fun i h st b hb => by
    obtain ⟨⟨old, he⟩, ⟨o, ho, hc, hd⟩, _⟩ := st
    have e' : b = e ∨ b = it := by simpa using hb
    rcases e' with z | z
    · rw [z]; exact ⟨_, he, fun v q => nomatch q⟩
    · rw [z]; exact ⟨o, ho, fun v q => by rw [hd] at q; cases q⟩
  keep := fun i h h' st k => let ⟨⟨old, he⟩, hi, hne⟩ := st; ⟨⟨old, k e (by simp) _ he⟩, hi.at fun o q => k it (by simp) o q, hne⟩
  item := by
    intro X hP hw hK hc i pins s σ H E I hf st hg
    subst hP hw hK
    obtain ⟨⟨old, he⟩, hit, hne⟩ := st
    obtain ⟨xs, x, hq, hx⟩ := hg
    obtain ⟨its, rv, p, hz⟩ := I.tuple hq
    obtain ⟨u, hu, ru⟩ := rv.get hx
    have p2 : s.heap.IsTuple a its.toArray := p
    have hel : e < s.heap.objs.size := Heap.lt_size he
    have hil : it < s.heap.objs.size := by obtain ⟨_, q, _⟩ := hit; exact Heap.lt_size q
    obtain ⟨f0, f1, f2, f3, f4, f5⟩ := hf it (by simp)
    obtain ⟨oa, ea, ca, _⟩ := id p2
    have nai : a ≠ it := fun z => by
      obtain ⟨o2, e2, c2, _⟩ := hit
      rw [← z, ea] at e2
      cases e2
      rw [ca] at c2
      exact absurd c2 (by decide)
    have nae : a ≠ e := fun z => by
      have he' : s.heap.get? e = some { cls := .type "enumerate", dict := none, data := .fields #[.none, .bool false, .ref it, rawInt ((i : Nat) : Int), .none, old], slots := #[] } := he
      rw [← z, ea] at he'
      have z2 := congrArg Obj.cls (Option.some.inj he')
      rw [ca] at z2
      exact absurd z2 (show Value.type "tuple" ≠ Value.type "enumerate" by decide)
    have hh : X.A.in1.handled = none := I.ok.hd hc
    have hlt : i < its.toArray.size := by
      have := (List.getElem?_eq_some_iff.mp hu).1
      simpa using this
    refine wpAny_pyNext_enum_itemC (Draws.tuple hh it a nai its.toArray) he ⟨hit, p2⟩ hlt hne (fun z => ?_) fun x' h' tk hP ho hs' hT hsz hk => ?_
    · rcases List.mem_cons.mp z with z | z
      · exact hne z
      · exact nae (List.mem_singleton.mp z).symm
    have ex : x' = u := by
      have h9 : its.toArray[i]? = some u := by simpa using hu
      rw [h9] at hP
      exact (Option.some.inj hP).symm
    subst ex
    refine ⟨_, rfl, wpAny_letOwnedTupleGo_enum (s := { s with heap := h', toks := tk + 1 }) ho fun h'' he' sb => ?_⟩
    have hT2 : h''.get? s.heap.objs.size = some { cls := .type "tuple", data := .seq #[.int i tk, x'] } := (sb.2 _ (Nat.ne_of_gt hel)).trans hT
    have new : ObjOk X.prog X.w (upd H s.heap.objs.size (.tup [.int (i : Nat), x])) h'' s.heap.objs.size (.tup [.int (i : Nat), x]) :=
      ⟨by show 2 ≤ sizeLine; decide, [.int i tk, x'], .cons ⟨_, rfl⟩ (.cons ru .nil), ⟨_, hT2, rfl, _, rfl⟩⟩
    have I1 : Inv X pins σ (upd H s.heap.objs.size (.tup [.int (i : Nat), x])) { s with heap := h'', toks := tk + 1 } :=
      I.turnedNew (ch := [e, it]) (fun b ob hb q => (sb.2 b (fun z => hb (by simp [z]))).trans (hk b ob (fun z => hb (by simp [z])) (fun z => hb (by simp [z])) q)) hf (Nat.le_refl _) new
    refine ⟨.ref s.heap.objs.size, _, I1, rfl, ⟨_, x, rfl, I.hok.fresh (Nat.le_refl _), rfl, fun ys hy => by rw [I.tuple_inj hy hq]; exact hx⟩, ⟨⟨x', ?_⟩, hs'.1.at fun o q => (sb.2 it (Ne.symm hne)).trans q, hne⟩, fun b hb => ?_⟩
    · have e1 : ((i + 1 : Nat) : Int) = (i : Int) + 1 := by omega
      rw [e1]; exact he'
    · have hb' : b < s.heap.objs.size := by
        have e' : b = e ∨ b = it := by simpa using hb
        rcases e' with z | z
        · rw [z]; exact hel
        · rw [z]; exact hil
      rw [upd_ne (Nat.ne_of_lt hb')]
      exact (hf b hb).1
  done := by
    intro X hP hw hK hc i pins s σ H E I hf st hg
    subst hP hw hK
    obtain ⟨⟨old, he⟩, hit, hne⟩ := st
    obtain ⟨xs, hq, hx⟩ := hg
    obtain ⟨its, rv, p, hz⟩ := I.tuple hq
    have p2 : s.heap.IsTuple a its.toArray := p
    obtain ⟨f0, f1, f2, f3, f4, f5⟩ := hf it (by simp)
    have hl := rv.length
    have hh : X.A.in1.handled = none := I.ok.hd hc
    have D : Draws X.prog X.w X.A.in1 it [it, a] i (fun _ _ => False) (fun j h => j = i ∧ h.IsTupleIter it a i ∧ h.IsTuple a its.toArray) := {
      live := fun _ _ st => let ⟨o, ho, _⟩ := st.2.1; ⟨o, ho⟩
      frame := fun _ _ _ st hk => ⟨st.1, st.2.1.at fun o e => hk it (by simp) o e, st.2.2.at fun o e => hk a (by simp) o e⟩
      item := fun j s' Q E hj st hQ => absurd st.1 (by omega)
      done := fun s' Q E st hE => by
        obtain ⟨_, h1, h2⟩ := st
        exact wpAny_nextOf_tuple_end hh h1 h2 (by simp; omega) hE }
    exact wpAny_pyNext_enum_endD D he ⟨rfl, hit, p2⟩ fun h' eb => ⟨rfl, I.turned (t' := s.toks) (fun b o hb q => eb b o hb q) f0 f1 f3 f4 f5⟩
  self := fun A i s Q E st h => let ⟨⟨_, he⟩, _⟩ := st; wpAny_pyIter_enum he h

/-- the list at a and the tuple at b, in new pairs -/
def ItzLT (K : PySem.W.Frag) (a b : Addr) : It :=
  ⟨fun i H => ∃ (xs ys : List V) (x y : V), SqL K H a xs ∧ SqT K H b ys ∧ xs[i]? = some x ∧ ys[i]? = some y,
    fun i H v H' => ∃ T x y, v = .ref T ∧ H T = none ∧ H' = upd H T (.tup [x, y]) ∧ (∀ xs, SqL K H a xs → xs[i]? = some x) ∧ ∀ ys, SqT K H b ys → ys[i]? = some y,
    fun i H => ∃ xs ys : List V, SqL K H a xs ∧ SqT K H b ys ∧ i ≤ xs.length ∧ i ≤ ys.length ∧ (i = xs.length ∨ i = ys.length)⟩
theorem sep_of {z TI TO i1 i2 a b : Addr} (D : ZipApart z TI TO i1 i2 a b) : ZipSep2 z TI TO i1 i2 [i1, a] [i2, b] := by
  have nm : ∀ {c p q : Addr}, c ≠ p → c ≠ q → c ∉ [p, q] := fun {c p q} h1 h2 h => by
    rcases List.mem_cons.mp h with e | e
    · exact h1 e
    · exact h2 (List.mem_singleton.mp e)
  exact ⟨D.TIz, D.TOz, D.TITO, D.TIi1, List.mem_cons_self, nm (Ne.symm D.i1z) (Ne.symm D.l1z), nm D.TOi1 (Ne.symm D.l1TO),
    D.TIi2, List.mem_cons_self, nm (Ne.symm D.i2z) (Ne.symm D.l2z), nm D.TOi2 (Ne.symm D.l2TO), nm D.i12 (Ne.symm D.l2i1), nm (Ne.symm D.i12) (Ne.symm D.l1i2)⟩
theorem turn_zLT {P : Program} {w : World} {K : PySem.W.Frag} {elts : List Expr} {kk : Nat} {tpos : Pos} {a b z TI TO i1 i2 : Addr} (D : ZipApart z TI TO i1 i2 a b) :
    Turn P w K (.Tuple elts kk tpos) (ItzLT K a b) [z, TI, TO, i1, i2] z (fun i h => IsZip h z TI TO .none ∧ IsTupOf2 h TI (.ref i1) (.ref i2) ∧ (∃ x y, IsTupOf2 h TO x y) ∧ h.IsListIter i1 a i ∧ h.IsTupleIter i2 b i) where
  mem := by simp
  obj := fun i h st c hc => by
    obtain ⟨hz, hTI, ⟨x, y, hTO⟩, ⟨o1, e1, _, d1⟩, ⟨o2, e2, _, d2⟩⟩ := st
    have e' : c = z ∨ c = TI ∨ c = TO ∨ c = i1 ∨ c = i2 := by simpa using hc
    rcases e' with q | q | q | q | q
    · rw [q]; exact ⟨_, hz, fun v q => nomatch q⟩
    · rw [q]; exact ⟨_, hTI, fun v q => nomatch q⟩
    · rw [q]; exact ⟨_, hTO, fun v q => nomatch q⟩
    · rw [q]; exact ⟨o1, e1, fun v q => by rw [d1] at q; cases q⟩
    · rw [q]; exact ⟨o2, e2, fun v q => by rw [d2] at q; cases q⟩
  keep := fun i h h' st k => by
    obtain ⟨hz, hTI, ⟨x, y, hTO⟩, h1, h2⟩ := st
    exact ⟨k z (by simp) _ hz, k TI (by simp) _ hTI, ⟨x, y, k TO (by simp) _ hTO⟩, h1.at fun o q => k i1 (by simp) o q, h2.at fun o q => k i2 (by simp) o q⟩
  item := by
    intro X hP hw hK hc i pins s σ H E I hf st hg
    subst hP hw hK
    obtain ⟨hz, hTI, ⟨x0, y0, hTO⟩, h1, h2⟩ := st
    obtain ⟨xs, ys, x, y, hqx, hqy, hx, hy⟩ := hg
    obtain ⟨its, rv, p, _⟩ := I.list hqx
    obtain ⟨its2, rv2, p2, _⟩ := I.tuple hqy
    obtain ⟨u, hu, ru⟩ := rv.get hx
    obtain ⟨u2, hu2, ru2⟩ := rv2.get hy
    have q2 : s.heap.IsTuple b its2.toArray := p2
    have hzl : z < s.heap.objs.size := Heap.lt_size hz
    have hh : X.A.in1.handled = none := I.ok.hd hc
    have l1 : i < its.toArray.size := by
      have := (List.getElem?_eq_some_iff.mp hu).1
      simpa using this
    have l2 : i < its2.toArray.size := by
      have := (List.getElem?_eq_some_iff.mp hu2).1
      simpa using this
    refine wpAny_pyNext_zipD2_item (sep_of D) (Draws.list hh i1 a D.l1i1 its.toArray) (Draws.tuple hh i2 b D.l2i2 its2.toArray) hz hTI hTO ⟨h1, p.isList⟩ ⟨h2, q2⟩ l1 l2 fun v1 v2 h' tk hv1 hv2 z' TO' h1' h2' hT hsz hk => ?_
    have ev1 : v1 = u := by
      have h9 : its.toArray[i]? = some u := by simpa using hu
      rw [h9] at hv1
      exact (Option.some.inj hv1).symm
    have ev2 : v2 = u2 := by
      have h9 : its2.toArray[i]? = some u2 := by simpa using hu2
      rw [h9] at hv2
      exact (Option.some.inj hv2).symm
    subst ev1 ev2
    refine ⟨_, rfl, wpAny_letOwnedTupleGo_zip (s := { s with heap := h', toks := tk }) z' fun h'' z'' sb => ?_⟩
    have hT2 : h''.get? s.heap.objs.size = some { cls := .type "tuple", data := .seq #[v1, v2] } := (sb.2 _ (Nat.ne_of_gt hzl)).trans hT
    have new : ObjOk X.prog X.w (upd H s.heap.objs.size (.tup [x, y])) h'' s.heap.objs.size (.tup [x, y]) :=
      ⟨by show 2 ≤ sizeLine; decide, [v1, v2], .cons ru (.cons ru2 .nil), ⟨_, hT2, rfl, _, rfl⟩⟩
    have I1 : Inv X pins σ (upd H s.heap.objs.size (.tup [x, y])) { s with heap := h'', toks := tk } :=
      I.turnedNew (t' := tk) (ch := [z, TI, TO, i1, i2]) (fun c o hb q => (sb.2 c (fun q' => hb (by simp [q']))).trans (hk c o (fun q' => hb (by simp [q'])) (fun q' => hb (by simp [q'])) (fun q' => hb (by simp [q'])) (fun q' => hb (by simp [q'])) q)) hf (Nat.le_refl _) new
    refine ⟨.ref s.heap.objs.size, _, I1, rfl, ⟨_, x, y, rfl, I.hok.fresh (Nat.le_refl _), rfl, fun l hl => by rw [I.list_inj hl hqx]; exact hx, fun l hl => by rw [I.tuple_inj hl hqy]; exact hy⟩, ⟨z'', ?_, ⟨v1, v2, ?_⟩, ?_, ?_⟩, fun c hcm => ?_⟩
    · exact (sb.2 _ D.TIz).trans (hk _ _ D.TIz D.TITO D.TIi1 D.TIi2 hTI)
    · exact (sb.2 _ D.TOz).trans TO'
    · exact h1'.1.at fun o q => (sb.2 _ D.i1z).trans q
    · exact h2'.1.at fun o q => (sb.2 _ D.i2z).trans q
    · have hlt : c < s.heap.objs.size := by
        have e' : c = z ∨ c = TI ∨ c = TO ∨ c = i1 ∨ c = i2 := by simpa using hcm
        rcases e' with q | q | q | q | q
        · rw [q]; exact hzl
        · rw [q]; exact Heap.lt_size hTI
        · rw [q]; exact Heap.lt_size hTO
        · rw [q]; obtain ⟨_, e1, _⟩ := h1; exact Heap.lt_size e1
        · rw [q]; obtain ⟨_, e2, _⟩ := h2; exact Heap.lt_size e2
      rw [upd_ne (Nat.ne_of_lt hlt)]
      exact (hf c hcm).1
  done := by
    intro X hP hw hK hc i pins s σ H E I hf st hg
    subst hP hw hK
    obtain ⟨hz, hTI, ⟨x0, y0, hTO⟩, h1, h2⟩ := st
    obtain ⟨xs, ys, hqx, hqy, le1, le2, hend⟩ := hg
    obtain ⟨its, rv, p, _⟩ := I.list hqx
    obtain ⟨its2, rv2, p2, _⟩ := I.tuple hqy
    have q2 : s.heap.IsTuple b its2.toArray := p2
    have l1 := rv.length
    have l2 := rv2.length
    have hh : X.A.in1.handled = none := I.ok.hd hc
    exact wpAny_pyNext_zipD2_end (i := i) (sep_of D) (Draws.list hh i1 a D.l1i1 its.toArray) (Draws.tuple hh i2 b D.l2i2 its2.toArray) hz hTI hTO ⟨h1, p.isList⟩ ⟨h2, q2⟩ (by simp; omega) (by simp; omega) (by simp; omega)
      fun h' tk hk => ⟨rfl, I.turnedL (t' := tk) (ch := [z, TI, TO, i1, i2]) (fun c o hb q =>
      hk c o (fun q' => hb (by simp [q'])) (fun q' => hb (by simp [q'])) (fun q' => hb (by simp [q'])) (fun q' => hb (by simp [q'])) q) hf⟩
  self := fun A i s Q E st h => wpAny_pyIter_zip st.1 h

/-! ### over data -/
def enD : Nat → List PyData → List PyData
  | _, [] => []
  | i, x :: r => .tuple [.int (i : Nat), x] :: enD (i + 1) r
def zpD : List PyData → List PyData → List PyData
  | x :: r, y :: s => .tuple [x, y] :: zpD r s
  | _, _ => []
theorem enD_len : ∀ (l : List PyData) (i : Nat), (enD i l).length = l.length
  | [], _ => rfl
  | _ :: r, i => congrArg Nat.succ (enD_len r (i + 1))
theorem enD_get : ∀ (l : List PyData) (i j : Nat) (d : PyData), (enD i l)[j]? = some d → ∃ x, l[j]? = some x ∧ d = .tuple [.int ((i + j : Nat) : Int), x]
  | [], _, _, _, h => by cases h
  | x :: r, i, 0, d, h => by
    cases h
    exact ⟨x, rfl, rfl⟩
  | x :: r, i, j + 1, d, h => by
    obtain ⟨y, h1, h2⟩ := enD_get r (i + 1) j d h
    refine ⟨y, h1, ?_⟩
    rw [h2]
    have e : i + 1 + j = i + (j + 1) := by omega
    rw [e]
theorem zpD_len : ∀ l k : List PyData, (zpD l k).length = min l.length k.length
  | [], _ => by rw [zpD] <;> simp
  | _ :: _, [] => by rw [zpD] <;> simp
  | _ :: r, _ :: s => by
    show (zpD r s).length + 1 = min (r.length + 1) (s.length + 1)
    rw [zpD_len r s]
    omega
theorem zpD_get : ∀ (l k : List PyData) (j : Nat) (d : PyData), (zpD l k)[j]? = some d → ∃ x y, l[j]? = some x ∧ k[j]? = some y ∧ d = .tuple [x, y]
  | [], _, _, _, h => by simp [zpD] at h
  | _ :: _, [], _, _, h => by simp [zpD] at h
  | x :: r, y :: s, 0, d, h => by
    cases h
    exact ⟨x, y, rfl, rfl, rfl⟩
  | x :: r, y :: s, j + 1, d, h => zpD_get r s j d h
def iEn (fe : Fe) : Fs := fun env => (fe env).bind fun d => (asTup d).bind fun xs => some (enD 0 xs)
def iZp (fa fb : Fe) : Fs := fun env => (fa env).bind fun d => (fb env).bind fun e => (asList d).bind fun xs => (asTup e).bind fun ys => some (zpD xs ys)
theorem asTup_inv {d : PyData} {xs : List PyData} (h : asTup d = some xs) : d = .tuple xs := by
  cases d with
  | tuple ys => cases h; rfl
  | _ => cases h
theorem asList_inv {d : PyData} {xs : List PyData} (h : asList d = some xs) : d = .list xs := by
  cases d with
  | list ys => cases h; rfl
  | _ => cases h
theorem yields_en {cs : Cs} {K : PySem.W.Frag} {G : Hp} {a : Addr} {vs : List V} {ds : List PyData} (h : G a = some (.tup vs)) (r : RpAll G vs ds) : Yields cs G (ItEnT K a) (enD 0 ds) := by
  intro G2 H2 k w i
  have h2 : SqT K H2 a vs := SqT.of (w.sub _ _ (k _ _ h))
  refine ⟨fun hi => ⟨vs, h2, by rw [hi, enD_len, r.length]; exact Nat.le_refl _⟩, fun d hd => ?_⟩
  obtain ⟨x, hx, ed⟩ := enD_get ds 0 i d hd
  obtain ⟨v, hv, rv⟩ := r.get hx
  refine ⟨⟨vs, v, h2, hv⟩, fun y H3 hy => ?_⟩
  obtain ⟨T, x', ey, hT, eH, hx'⟩ := hy
  have ex := hx' vs h2
  rw [hv] at ex
  cases ex
  subst ey eH ed
  have x1 := Ext.laid (o := .tup [.int (i : Nat), v]) w hT
  refine ⟨_, x1, .tup upd_same (.cons ?_ (.cons (rv.mono (k.trans x1.old)) .nil))⟩
  have e0 : (0 + i : Nat) = i := Nat.zero_add i
  rw [e0]
  exact .int _
theorem yields_zp {cs : Cs} {K : PySem.W.Frag} {G : Hp} {a b : Addr} {vs ws : List V} {ds es : List PyData} (h : G a = some (.lst vs)) (r : RpAll G vs ds) (h' : G b = some (.tup ws)) (r' : RpAll G ws es) : Yields cs G (ItzLT K a b) (zpD ds es) := by
  intro G2 H2 k w i
  have h2 : SqL K H2 a vs := SqL.of (w.sub _ _ (k _ _ h))
  have h3 : SqT K H2 b ws := SqT.of (w.sub _ _ (k _ _ h'))
  have l1 := r.length
  have l2 := r'.length
  refine ⟨fun hi => ⟨vs, ws, h2, h3, by rw [hi, zpD_len]; omega, by rw [hi, zpD_len]; omega, by rw [hi, zpD_len]; omega⟩, fun d hd => ?_⟩
  obtain ⟨x, y, hx, hy, ed⟩ := zpD_get ds es i d hd
  obtain ⟨v, hv, rv⟩ := r.get hx
  obtain ⟨u, hu, ru⟩ := r'.get hy
  refine ⟨⟨vs, ws, v, u, h2, h3, hv, hu⟩, fun y H3 hy => ?_⟩
  obtain ⟨T, x', y', ey, hT, eH, hx', hy'⟩ := hy
  have ex := hx' vs h2
  rw [hv] at ex
  cases ex
  have ex2 := hy' ws h3
  rw [hu] at ex2
  cases ex2
  subst ey eH ed
  have x1 := Ext.laid (o := .tup [v, u]) w hT
  exact ⟨_, x1, .tup upd_same (.cons (rv.mono (k.trans x1.old)) (.cons (ru.mono (k.trans x1.old)) .nil))⟩
section
variable {X : Cx} {cs : Cs} {e e2 : Expr} {fe fa fb : Fe} {p pos tpos : Pos} {elts : List Expr} {kk : Nat}
theorem di_enum (hm : X.mg "enumerate" = none) (he : PE X e (tD cs fe)) (hg : Gl X "enumerate" := by rfl) (hs : starEach [e] X.env = [(false, eval e X.env)] := by rfl) :
    PI X (.Tuple elts kk tpos) (.Call (.Name "enumerate" p) [e] [] pos) (tDI cs (iEn fe)) := by
  refine ⟨fun pins s σ H R I h => ?_⟩
  obtain ⟨H0, G, env, items, w, r, ee, q⟩ := h
  unfold iEn at ee
  cases ef : fe env with
  | none => rw [ef] at ee; cases ee
  | some d =>
    rw [ef] at ee
    have ee1 : ((asTup d).bind fun xs => some (enD 0 xs)) = some items := ee
    cases et : asTup d with
    | none => rw [et] at ee1; cases ee1
    | some xs =>
      rw [et] at ee1
      cases ee1
      have ed := asTup_inv et
      subst ed
      have hargs : tDA cs (sCons fe sNil) σ H fun vs H1 => ∃ G1 a ws, Ext cs G H G1 H1 ∧ vs = [V.ref a] ∧ G1 a = some (.tup ws) ∧ RpAll G1 ws xs := by
        refine ⟨H0, G, env, [.tuple xs], w, r, ?_, fun G1 H1 vs x1 rv => ?_⟩
        · show ((fe env).bind fun d => (sNil env).bind fun ds => some (d :: ds)) = _
          rw [ef] <;> rfl
        · obtain ⟨v, ev, r1⟩ := rv.one_inv
          obtain ⟨a, ws, e1, g1, r2⟩ := r1.tuple_inv
          exact ⟨G1, a, ws, x1, by rw [ev, e1], g1, r2⟩
      refine Call_ (ld_blt I hg hm boot_enumerate (PyProof.Rows.callWith_type1 (thn ((da_cons he da_nil hs).run pos pins s σ H _ I hargs) fun us s1 ⟨vs, H1, I1, r1, q1⟩ => ?_) hs rfl))
      obtain ⟨G1, a, ws, x1, ev, g1, rws⟩ := q1
      subst ev
      obtain ⟨u, eu, ru⟩ := Vals1 r1
      subst eu
      have eu : u = Value.ref a := ru
      subst eu
      obtain ⟨its, rv, p', hz⟩ := I1.tuple (SqT.of (x1.wd.sub _ _ g1))
      refine call_enumT (begins_tuple a its.toArray) p' fun h' he' hit hk => wpAny_pyIter_enum he' ?_
      have I2 : Inv X pins σ H1 { s1 with heap := h' } := I1.kept (t' := s1.toks) hk
      refine ⟨s1.heap.objs.size + 1, [s1.heap.objs.size + 1, s1.heap.objs.size], _, _, H1, rfl, I2, turn_enT a (s1.heap.objs.size + 1) s1.heap.objs.size, ⟨⟨.none, he'⟩, ⟨_, hit, rfl, rfl⟩, Nat.succ_ne_self _⟩, fun b hb => ?_, q G1 H1 _ x1 (yields_en g1 rws)⟩
      have e' : b = s1.heap.objs.size + 1 ∨ b = s1.heap.objs.size := by simpa using hb
      have hle : s1.heap.objs.size ≤ b := by
        rcases e' with z | z
        · rw [z]; exact Nat.le_add_right _ _
        · rw [z]; exact Nat.le_refl _
      exact I1.fpOk hle (I1.hok.fresh hle)
theorem di_zip (hm : X.mg "zip" = none) (ha : PE X e (tD cs fa)) (hb : PE X e2 (tD cs fb)) (hg : Gl X "zip" := by rfl) (hs : starEach (e :: [e2]) X.env = (false, eval e X.env) :: starEach [e2] X.env := by rfl) (hs2 : starEach [e2] X.env = [(false, eval e2 X.env)] := by rfl) (hpl : (backTo pos (starEach [e2] X.env)).any (·.1) = false := by rfl) :
    PI X (.Tuple elts kk tpos) (.Call (.Name "zip" p) [e, e2] [] pos) (tDI cs (iZp fa fb)) := by
  refine ⟨fun pins s σ H R I h => ?_⟩
  obtain ⟨H0, G, env, items, w, r, ee, q⟩ := h
  unfold iZp at ee
  cases ef : fa env with
  | none => rw [ef] at ee; cases ee
  | some d =>
    cases ef2 : fb env with
    | none => rw [ef, ef2] at ee; cases ee
    | some d2 =>
      rw [ef, ef2] at ee
      have ee1 : ((asList d).bind fun xs => (asTup d2).bind fun ys => some (zpD xs ys)) = some items := ee
      cases el : asList d with
      | none => rw [el] at ee1; cases ee1
      | some xs =>
        rw [el] at ee1
        have ee2 : ((asTup d2).bind fun ys => some (zpD xs ys)) = some items := ee1
        cases et : asTup d2 with
        | none => rw [et] at ee2; cases ee2
        | some ys =>
          rw [et] at ee2
          cases ee2
          have ed := asList_inv el
          have ed2 := asTup_inv et
          subst ed ed2
          have hargs : tDA cs (sCons fa (sCons fb sNil)) σ H fun vs H1 => ∃ G1 a ws b us, Ext cs G H G1 H1 ∧ vs = [V.ref a, V.ref b] ∧ G1 a = some (.lst ws) ∧ RpAll G1 ws xs ∧ G1 b = some (.tup us) ∧ RpAll G1 us ys := by
            refine ⟨H0, G, env, [.list xs, .tuple ys], w, r, ?_, fun G1 H1 vs x1 rv => ?_⟩
            · show ((fa env).bind fun d => ((fb env).bind fun d => (sNil env).bind fun ds => some (d :: ds)).bind fun ds => some (d :: ds)) = _
              rw [ef, ef2] <;> rfl
            · cases rv with
              | cons r1 rv =>
                obtain ⟨v, ev, r3⟩ := rv.one_inv
                subst ev
                obtain ⟨a, ws, e1, g1, r2⟩ := r1.list_inv
                obtain ⟨b, us, e3, g3, r4⟩ := r3.tuple_inv
                exact ⟨G1, a, ws, b, us, x1, by rw [e1, e3], g1, r2, g3, r4⟩
          refine Call_ (ld_blt I hg hm PyProof.Rows.boot_zip (PyProof.Rows.callWith_type1 (thn ((da_cons ha (da_cons hb da_nil hs2) hs).run pos pins s σ H _ I hargs) fun us s1 ⟨vs, H1, I1, r1, q1⟩ => ?_) hs hpl))
          obtain ⟨G1, a, ws, b, us', x1, ev, g1, rws, g2, rus⟩ := q1
          subst ev
          cases r1 with
          | cons ra rr =>
            obtain ⟨u, eu, ru⟩ := Vals1 rr
            subst eu
            have eu : u = Value.ref b := ru
            subst eu
            cases ra
            obtain ⟨its, rv, p1, hz1⟩ := I1.list (SqL.of (x1.wd.sub _ _ g1))
            obtain ⟨its2, rv2, p2, hz2⟩ := I1.tuple (SqT.of (x1.wd.sub _ _ g2))
            have t2 : s1.heap.IsTuple b its2.toArray := p2
            have la : a < s1.heap.objs.size := p1.lt
            have lb : b < s1.heap.objs.size := p2.lt
            refine zip_begins2 (begins_list a its.toArray) (begins_tuple b its2.toArray) p1.isList t2 fun h' hz hTI hTO h1 h2 hsz hk => wpAny_pyIter_zip hz ?_
            have I2 : Inv X pins σ H1 { s1 with heap := h' } := I1.kept (t' := s1.toks) hk
            refine ⟨s1.heap.objs.size + 4, [s1.heap.objs.size + 4, s1.heap.objs.size + 2, s1.heap.objs.size + 3, s1.heap.objs.size, s1.heap.objs.size + 1], _, _, H1, rfl, I2, turn_zLT (PySem.W.ktu_apart s1.heap.objs.size a b la lb), ⟨hz, hTI, ⟨_, _, hTO⟩, ⟨_, h1, rfl, rfl⟩, ⟨_, h2, rfl, rfl⟩⟩, fun c hcm => ?_, q G1 H1 _ x1 (yields_zp g1 rws g2 rus)⟩
            have e' : c = s1.heap.objs.size + 4 ∨ c = s1.heap.objs.size + 2 ∨ c = s1.heap.objs.size + 3 ∨ c = s1.heap.objs.size ∨ c = s1.heap.objs.size + 1 := by simpa using hcm
            have hle : s1.heap.objs.size ≤ c := by
              rcases e' with z | z | z | z | z
              · rw [z]; exact Nat.le_add_right _ _
              · rw [z]; exact Nat.le_add_right _ _
              · rw [z]; exact Nat.le_add_right _ _
              · rw [z]; exact Nat.le_refl _
              · rw [z]; exact Nat.le_add_right _ _
            exact I1.fpOk hle (I1.hok.fresh hle)
end
end DL

/-! Dl6: generator expressions whose elements may do anything that a def may do. -/
namespace DL
open PySem PySem.Spec PyProof.Rows L2

/-! ### the walk of a generator expression, for its consumer -/
structure GWk (P : Program) (w : World) (B : Around) (a : Addr) (n : Nat) (At : Nat → V → Prop) (SS : List Addr) (St : Nat → List (Addr × Obj) → Shared → Prop) (Fi : Shared → Prop) : Prop where
  item : ∀ (j : Nat) (pS : List (Addr × Obj)) (s : Shared) (Q : Option Value → Shared → Prop) (E : Value → Shared → Prop), j < n → St j pS s → (∀ y v s', RelV y v → At j y → St (j + 1) pS s' → Q (some v) s') → wpAny (model P w) B (pyNext (.ref a)) Q E s
  done : ∀ (pS : List (Addr × Obj)) (s : Shared) (Q : Option Value → Shared → Prop) (E : Value → Shared → Prop), St n pS s → (∀ s', Fi s' → Q none s') → wpAny (model P w) B (pyNext (.ref a)) Q E s
  stop : ∀ j pS s, St j pS s → Fi s
  tok : ∀ j pS s t, St j pS s → St j pS { s with toks := t }
  at_ : ∀ j pS s, St j pS s → ∀ p ∈ pS, s.heap.get? p.1 = some p.2
  put : ∀ (j : Nat) (S : Addr) (o o' : Obj) (s : Shared) (h' : Heap) (t : Nat), St j [(S, o)] s → (∀ b u, b ≠ S → s.heap.get? b = some u → h'.get? b = some u) → h'.get? S = some o' → (∀ v, o'.data ≠ .cell v) → St j [(S, o')] { s with heap := h', toks := t }

section
variable {P : Program} {w : World} {A : Around} {R : Result → Shared → Prop} {a : Addr} {n : Nat} {St : Nat → List (Addr × Obj) → Shared → Prop} {Fi : Shared → Prop}
def BlAt (bs : Nat → Bool) (j : Nat) (y : V) : Prop := y = .bl (bs j)
theorem all_loopG {bs : Nat → Bool} (W : GWk P w A.in1 a n (BlAt bs) [] St Fi) : ∀ (k j : Nat) (s : Shared), n - j = k → j ≤ n → St j [] s →
    (∀ s', Fi s' → R (.ok (.ret (.bool (((List.range n).drop j).all bs)))) s') → codeAny (model P w) A (.builtin "all.loop" ⟨[.ref a], []⟩) R s := by
  intro k
  induction k with
  | zero =>
    intro j s hk hj hst hR
    have hjn : j = n := by omega
    subst hjn
    refine codeAny_builtin F.entry_all_loop ?_
    rw [Around.under_plainId F.plain_all_loop _]
    show wpAny _ A.in1 (pyNext (.ref a) >>= _) _ _ s
    refine wpAny_bind (W.done [] s _ _ hst fun s' hf => ?_)
    refine wpAny_bind (wpAny_rule (wpAny_pure ?_))
    have q := hR s' hf
    rw [List.drop_of_length_le (by simp)] at q
    exact q
  | succ k ih =>
    intro j s hk hj hst hR
    have hlt : j < n := by omega
    have hd : (List.range n).drop j = j :: (List.range n).drop (j + 1) := by
      rw [List.drop_eq_getElem_cons (by simpa using hlt)]; simp
    refine codeAny_builtin F.entry_all_loop ?_
    rw [Around.under_plainId F.plain_all_loop _]
    show wpAny _ A.in1 (pyNext (.ref a) >>= _) _ _ s
    refine wpAny_bind (W.item j [] s _ _ hlt hst fun y v s' rv hy hst' => ?_)
    have hy' : y = .bl (bs j) := hy
    subst hy'
    have rv' : v = Value.bool (bs j) := rv
    subst rv'
    refine wpAny_bind (wpAny_holding (wpAny_truthy_bool ?_))
    refine wpAny_bind (wpAny_letGo ?_)
    cases hb : bs j with
    | true =>
      simp only [if_true]
      refine wpAny_pure ⟨plainId_quiet F.plain_all_loop _, ih (j + 1) s' (by omega) hlt hst' fun s'' hf => ?_⟩
      have q := hR s'' hf
      rw [hd, List.all_cons, hb, Bool.true_and] at q
      exact q
    | false =>
      simp only [Bool.false_eq_true, if_false]
      refine wpAny_bind (wpAny_rule (wpAny_pure ?_))
      have q := hR s' (W.stop _ _ _ hst')
      rw [hd, List.all_cons, hb, Bool.false_and] at q
      exact q
theorem any_loopG {bs : Nat → Bool} (W : GWk P w A.in1 a n (BlAt bs) [] St Fi) : ∀ (k j : Nat) (s : Shared), n - j = k → j ≤ n → St j [] s →
    (∀ s', Fi s' → R (.ok (.ret (.bool (((List.range n).drop j).any bs)))) s') → codeAny (model P w) A (.builtin "any.loop" ⟨[.ref a], []⟩) R s := by
  intro k
  induction k with
  | zero =>
    intro j s hk hj hst hR
    have hjn : j = n := by omega
    subst hjn
    refine codeAny_builtin F.entry_any_loop ?_
    rw [Around.under_plainId F.plain_any_loop _]
    show wpAny _ A.in1 (pyNext (.ref a) >>= _) _ _ s
    refine wpAny_bind (W.done [] s _ _ hst fun s' hf => ?_)
    refine wpAny_bind (wpAny_rule (wpAny_pure ?_))
    have q := hR s' hf
    rw [List.drop_of_length_le (by simp)] at q
    exact q
  | succ k ih =>
    intro j s hk hj hst hR
    have hlt : j < n := by omega
    have hd : (List.range n).drop j = j :: (List.range n).drop (j + 1) := by
      rw [List.drop_eq_getElem_cons (by simpa using hlt)]; simp
    refine codeAny_builtin F.entry_any_loop ?_
    rw [Around.under_plainId F.plain_any_loop _]
    show wpAny _ A.in1 (pyNext (.ref a) >>= _) _ _ s
    refine wpAny_bind (W.item j [] s _ _ hlt hst fun y v s' rv hy hst' => ?_)
    have hy' : y = .bl (bs j) := hy
    subst hy'
    have rv' : v = Value.bool (bs j) := rv
    subst rv'
    refine wpAny_bind (wpAny_holding (wpAny_truthy_bool ?_))
    refine wpAny_bind (wpAny_letGo ?_)
    cases hb : bs j with
    | false =>
      simp only [Bool.false_eq_true, if_false]
      refine wpAny_pure ⟨plainId_quiet F.plain_any_loop _, ih (j + 1) s' (by omega) hlt hst' fun s'' hf => ?_⟩
      have q := hR s'' hf
      rw [hd, List.any_cons, hb, Bool.false_or] at q
      exact q
    | true =>
      simp only [if_true]
      refine wpAny_bind (wpAny_rule (wpAny_pure ?_))
      have q := hR s' (W.stop _ _ _ hst')
      rw [hd, List.any_cons, hb, Bool.true_or] at q
      exact q
variable {E : Value → Shared → Prop} {s : Shared} {Q : Value → Shared → Prop}
theorem call_allG {bs : Nat → Bool} {g : Nat} (hg : s.heap.IsGen a g) (W : GWk P w A.in1 a n (BlAt bs) [] St Fi) (hst : St 0 [] s) (hQ : ∀ s', Fi s' → Q (.bool ((List.range n).all bs)) s') :
    wpAny (model P w) A (call (.builtin "all") [.ref a]) Q E s := by
  refine call_function_tree F.kind_all F.plain_all F.entry_all (F.args_all1 _) ?_
  unfold Builtin.«all»
  refine wpAny_bind (m := oneArg "all" _) (wpAny_pure ?_)
  refine wpAny_bind (wpAny_pyIter_gen hg ?_)
  exact wpAny_pure ⟨plainId_quiet F.plain_all_loop _, all_loopG W n 0 s rfl (Nat.zero_le _) hst fun s' hf => by simpa using hQ s' hf⟩
theorem call_anyG {bs : Nat → Bool} {g : Nat} (hg : s.heap.IsGen a g) (W : GWk P w A.in1 a n (BlAt bs) [] St Fi) (hst : St 0 [] s) (hQ : ∀ s', Fi s' → Q (.bool ((List.range n).any bs)) s') :
    wpAny (model P w) A (call (.builtin "any") [.ref a]) Q E s := by
  refine call_function_tree F.kind_any F.plain_any F.entry_any (F.args_any1 _) ?_
  unfold Builtin.«any»
  refine wpAny_bind (m := oneArg "any" _) (wpAny_pure ?_)
  refine wpAny_bind (wpAny_pyIter_gen hg ?_)
  exact wpAny_pure ⟨plainId_quiet F.plain_any_loop _, any_loopG W n 0 s rfl (Nat.zero_le _) hst fun s' hf => by simpa using hQ s' hf⟩
end

/-! ### the generator's own run -/
theorem pins_eq : ∀ {l l' : List (Addr × Obj)} {h : Heap}, l.map (·.1) = l'.map (·.1) → (∀ p ∈ l, h.get? p.1 = some p.2) → (∀ p ∈ l', h.get? p.1 = some p.2) → l = l'
  | [], [], _, _, _, _ => rfl
  | [], _ :: _, _, e, _, _ => by cases e
  | _ :: _, [], _, e, _, _ => by cases e
  | (a, o) :: l, (b, u) :: l', h, e, h1, h2 => by
    have e' : a :: l.map (·.1) = b :: l'.map (·.1) := e
    injection e' with e1 e2
    subst e1
    have q1 := h1 (a, o) List.mem_cons_self
    have q2 := h2 (a, u) List.mem_cons_self
    have q3 : h.get? a = some o := q1
    have q4 : h.get? a = some u := q2
    rw [q3] at q4
    cases q4
    rw [pins_eq e2 (fun p hp => h1 p (List.mem_cons_of_mem _ hp)) fun p hp => h2 p (List.mem_cons_of_mem _ hp)]
theorem Inv.gensT {X : Cx} {pins : List (Addr × Obj)} {σ : L2.St} {H : Hp} {s : Shared} {g' : Array GenState} {t' : Nat} (I : Inv X pins σ H s) (hg : AllBare g') : Inv X pins σ H { s with gens := g', toks := t' } :=
  ⟨I.ok, I.os, hg, I.base, I.loc, I.cell, I.free, I.freeC, I.pin, I.hok, I.len⟩
/-- between two turns of the generator's loop -/
def GIp (Y : Cx) (fp : List Addr) (tn : Nat → Heap → Prop) (σw : L2.St) (inv : Nat → Hp → Prop) (j : Nat) (pS : List (Addr × Obj)) (s : Shared) : Prop :=
  ∃ H, Inv Y pS σw H s ∧ tn j s.heap ∧ (∀ b ∈ fp, FpOk Y pS H b) ∧ inv j H
def pat (pS : List (Addr × Obj)) (s : Shared) : Prop := ∀ p ∈ pS, s.heap.get? p.1 = some p.2
/-- the generator's run -/
structure GRun (Y : Cx) (elt iter : Expr) (x : Str) (px : Pos) (scope : Scope) (gpos : Pos) (A : Around) (it : Addr) (fp : List Addr) (tn : Nat → Heap → Prop) (J : It) (σw : L2.St) (n : Nat) (At : Nat → V → Prop) (inv : Nat → Hp → Prop) : Prop where
  calm : Y.calm = true
  xe : Y.xe = fun _ _ => False
  co : Y.env.scope.isCoroutine = false
  T : Turn Y.prog Y.w Y.K (.Name x px) J fp it tn
  over : ∀ c : Code, c = .compLoop (.GeneratorExp elt [⟨.Name x px, iter, [], 0⟩] scope gpos) 0 (.ref it) .none Y.env ∨ c = .compStart (.GeneratorExp elt [⟨.Name x px, iter, [], 0⟩] scope gpos) 0 (.ref it) .none Y.env → A.over c [] = Y.A
  stop : ∀ H, inv n H → J.stop n H
  go : ∀ j H, j < n → inv j H → J.go j H
  step : ∃ (i : Nat) (te : TE), PG Y (.Name x px) (gName i) ∧ PE Y elt te ∧ (∀ v, (σw.set i (some v)).length = σw.length ∧ ∀ (l : Nat) u, σw[l]? = some (some u) → (σw.set i (some v))[l]? = some (some u)) ∧
    ∀ j H v H', j < n → inv j H → J.yld j H v H' → te (σw.set i (some v)) H' fun y H'' => At j y ∧ inv (j + 1) H''
section
variable {Y : Cx} {elt iter : Expr} {x : Str} {px : Pos} {scope : Scope} {gpos : Pos} {A : Around} {it : Addr} {fp : List Addr} {tn : Nat → Heap → Prop} {J : It} {σw : L2.St} {n : Nat} {At : Nat → V → Prop} {inv : Nat → Hp → Prop}
def gY (Y : Cx) (fp : List Addr) (tn : Nat → Heap → Prop) (σw : L2.St) (n : Nat) (At : Nat → V → Prop) (inv : Nat → Hp → Prop) (SS : List Addr) : Protocol := fun m s0 v s kap =>
  (∃ y, RelV y v ∧ At (n - 1 - m) y) ∧ (∃ pS, pS.map (·.1) = SS ∧ pat pS s0 ∧ GIp Y fp tn σw inv (n - m) pS s) ∧ ∀ s'' pS', pS'.map (·.1) = SS → GIp Y fp tn σw inv (n - m) pS' s'' → kap (.send .none) s''
def gEnd (Y : Cx) (σw : L2.St) (n : Nat) (inv : Nat → Hp → Prop) (SS : List Addr) (m : Nat) (s0 s : Shared) : Prop :=
  m = 0 ∧ ∃ pS H, pS.map (·.1) = SS ∧ pat pS s0 ∧ Inv Y pS σw H s ∧ inv n H
def gR (Y : Cx) (σw : L2.St) (n : Nat) (inv : Nat → Hp → Prop) (SS : List Addr) : GenEnd := fun m s0 r s =>
  ((r = .ok (.ret .none) ∨ r = .ok .next) ∧ gEnd Y σw n inv SS m s0 s) ∨ ∃ e, r = .error e ∧ (fun (_ : Value) (_ : Shared) => False) e s
theorem gen_loop (G : GRun Y elt iter x px scope gpos A it fp tn J σw n At inv) (SS : List Addr) : ∀ (k j : Nat) (s0 s : Shared) (pS : List (Addr × Obj)), n - j = k → j ≤ n → pS.map (·.1) = SS → pat pS s0 → GIp Y fp tn σw inv j pS s →
    Seg (model Y.prog Y.w) A (gR Y σw n inv SS) (gY Y fp tn σw n At inv SS) (n - j) s0 (.compLoop (.GeneratorExp elt [⟨.Name x px, iter, [], 0⟩] scope gpos) 0 (.ref it) .none Y.env)
      ((model Y.prog Y.w).den (.compLoop (.GeneratorExp elt [⟨.Name x px, iter, [], 0⟩] scope gpos) 0 (.ref it) .none Y.env)) [] s := by
  have hA := G.over _ (.inl rfl)
  intro k
  induction k with
  | zero =>
    intro j s0 s pS hk hj hS h0 hI
    have hjn : j = n := by omega
    subst hjn
    obtain ⟨H, I, st, fo, iv⟩ := hI
    rw [Nat.sub_self]
    show Seg _ A _ _ _ s0 _ ((compTurn (.GeneratorExp elt [⟨.Name x px, iter, [], 0⟩] scope gpos) 0 (.ref it) .none Y.env).onRaise (leaving Y.env)) [] s
    rw [compTurn_gen, Sem.onRaise_eq_wrap]
    refine seg_bind_wrap (wpAny_standAt ?_)
    refine seg_bind_wrap ?_
    rw [hA]
    refine wpAny_mono (G.T.done Y rfl rfl rfl G.calm j pS s σw H (fun _ _ => False) I fo st (G.stop H iv)) (fun r s1 hr => ?_) fun _ _ z => z.elim
    obtain ⟨e, I1⟩ := hr
    subst e
    exact seg_end (.ok .next) (.inl ⟨.inr rfl, rfl, pS, H, hS, h0, I1, iv⟩)
  | succ k ih =>
    intro j s0 s pS hk hj hS h0 hI
    have hlt : j < n := by omega
    obtain ⟨H, I, st, fo, iv⟩ := hI
    obtain ⟨i, te, pg, pe, hσ, step⟩ := G.step
    have em : n - j = (n - (j + 1)) + 1 := by omega
    rw [em]
    show Seg _ A _ _ _ s0 _ ((compTurn (.GeneratorExp elt [⟨.Name x px, iter, [], 0⟩] scope gpos) 0 (.ref it) .none Y.env).onRaise (leaving Y.env)) [] s
    rw [compTurn_gen, Sem.onRaise_eq_wrap]
    refine seg_bind_wrap (wpAny_standAt ?_)
    refine seg_bind_wrap ?_
    rw [hA]
    refine wpAny_mono (G.T.item Y rfl rfl rfl G.calm j pS s σw H (fun _ _ => False) I fo st (G.go j H hlt iv)) (fun r s1 hr => ?_) fun _ _ z => z.elim
    obtain ⟨u, e, h1⟩ := hr
    subst e
    refine seg_bind_wrap ?_
    rw [hA]
    refine wpAny_mono h1 (fun _ s2 h2 => ?_) fun _ _ z => z.elim
    obtain ⟨v, H2, I2, rv, yv, st2, n2⟩ := h2
    have fo2 : ∀ b ∈ fp, FpOk Y pS H2 b := fun b hb => ⟨n2 b hb, (fo b hb).2⟩
    have I2' := I2.pinned fo2 (G.T.obj _ _ st2)
    refine seg_bind_wrap ?_
    rw [hA]
    have hst := step j H v H2 hlt iv yv
    refine wpAny_mono (pg.run _ s2 σw H2 v u (fun σ3 H3 => σ3 = σw.set i (some v) ∧ H3 = H2) I2' rv ⟨rfl, rfl⟩) (fun _ s3 h3 => ?_) fun y s' z => by rw [G.xe] at z; exact z.elim
    obtain ⟨σ3, H3, I3, e1, e2⟩ := h3
    subst e1 e2
    refine seg_bind_wrap (wpAny_tests_nil ?_)
    simp only [if_true]
    have hy : ∀ v, yieldOut Y.env v = yieldValue v := fun v => by simp only [yieldOut, G.co, Bool.false_eq_true, if_false]
    simp only [hy]
    rw [Sem.bind_eq_wrap', Sem.bind_eq_wrap', Sem.wrap_wrap, Sem.wrap_wrap]
    refine seg_wrap ?_
    rw [hA]
    refine wpAny_mono (pe.run _ s3 _ H3 _ I3 hst) (fun yv' s4 h4 => ?_) fun y s' z => by rw [G.xe] at z; exact z.elim
    obtain ⟨y, H4, I4, ry, ay, iv4⟩ := h4
    have pin' : ∀ b ∈ fp, ∀ o, s2.heap.get? b = some o → s4.heap.get? b = some o ∧ H4 b = none := fun b hb o e =>
      let z := I4.pin (b, o) (List.mem_append_right _ (List.mem_append_right _ (mem_pinsAt hb e)))
      ⟨z.1, z.2.1⟩
    have I5 : Inv Y pS σw H4 s4 := (I4.unpinned).weak (hσ v).1.symm fun l u e => (hσ v).2 l u e
    have gi : GIp Y fp tn σw inv (j + 1) pS s4 := ⟨H4, I5, G.T.keep _ _ _ st2 fun b hb o e => (pin' b hb o e).1, fun b hb => by
      obtain ⟨o, e, _⟩ := G.T.obj _ _ st2 b hb
      exact ⟨(pin' b hb o e).2, (fo b hb).2⟩, iv4⟩
    have e1 : n - 1 - (n - (j + 1)) = j := by omega
    have e2 : n - (n - (j + 1)) = j + 1 := by omega
    refine seg_at (seg_yield rfl rfl rfl ⟨⟨y, ry, by rw [e1]; exact ay⟩, ⟨pS, hS, h0, by rw [e2]; exact gi⟩, fun s'' pS' hS' gi' => ?_⟩)
    rw [e2] at gi'
    refine seg_again rfl (ih (j + 1) s'' s'' pS' (by omega) hlt hS' ?_ gi')
    obtain ⟨_, I', _⟩ := gi'
    exact fun p hp => (I'.pin p (List.mem_append_right _ hp)).1
theorem gen_begin (G : GRun Y elt iter x px scope gpos A it fp tn J σw n At inv) (SS : List Addr) (s0 s : Shared) (pS : List (Addr × Obj)) (hS : pS.map (·.1) = SS) (h0 : pat pS s0) (hI : GIp Y fp tn σw inv 0 pS s) :
    Seg (model Y.prog Y.w) A (gR Y σw n inv SS) (gY Y fp tn σw n At inv SS) n s0 (.compStart (.GeneratorExp elt [⟨.Name x px, iter, [], 0⟩] scope gpos) 0 (.ref it) .none Y.env)
      ((model Y.prog Y.w).den (.compStart (.GeneratorExp elt [⟨.Name x px, iter, [], 0⟩] scope gpos) 0 (.ref it) .none Y.env)) [] s := by
  have hA := G.over _ (.inr rfl)
  have loop := gen_loop G SS n 0 s0 s pS (Nat.sub_zero _) (Nat.zero_le _) hS h0 hI
  rw [Nat.sub_zero] at loop
  obtain ⟨H, I, st, fo, iv⟩ := hI
  show Seg _ A _ _ _ s0 _ ((compStart (.GeneratorExp elt [⟨.Name x px, iter, [], 0⟩] scope gpos) 0 (.ref it) .none Y.env).onRaise (leaving Y.env)) [] s
  unfold compStart
  rw [Sem.onRaise_eq_wrap]
  show Seg _ A _ _ _ s0 _ ((ask >>= _).wrap _ _ _ _) [] s
  refine seg_bind_wrap (wpAny_askSetting ?_)
  split
  · exact seg_again rfl loop
  · refine seg_bind_wrap (wpAny_rule ?_)
    show Seg _ A _ _ _ s0 _ ((standAt iter.pos >>= _).wrap _ _ _ _) [] s
    exact seg_bind_wrap (wpAny_standAt (seg_bind_wrap (G.T.self _ 0 s _ _ st (seg_again rfl loop))))

/-- the generator at a, its state number g, at turn j -/
def GSt (Y : Cx) (A : Around) (fp : List Addr) (tn : Nat → Heap → Prop) (σw : L2.St) (n : Nat) (At : Nat → V → Prop) (inv : Nat → Hp → Prop) (g : Nat) (SS : List Addr) (j : Nat) (pS : List (Addr × Obj)) (s : Shared) : Prop :=
  pS.map (·.1) = SS ∧ GIp Y fp tn σw inv j pS s ∧ ∃ gs, s.gens[g]? = some gs ∧ ∀ s'' pS', pS'.map (·.1) = SS → GIp Y fp tn σw inv j pS' s'' → gs.Goes (model Y.prog Y.w) A (gR Y σw n inv SS) (gY Y fp tn σw n At inv SS) (n - j) (.send .none) s''
theorem GIp.gens {j : Nat} {pS : List (Addr × Obj)} {s : Shared} {g' : Array GenState} {t' : Nat} (h : GIp Y fp tn σw inv j pS s) (hg : AllBare g') : GIp Y fp tn σw inv j pS { s with gens := g', toks := t' } := by
  obtain ⟨H, I, st, fo, iv⟩ := h
  exact ⟨H, Inv.gensT I hg, st, fo, iv⟩
theorem GIp.bare {j : Nat} {pS : List (Addr × Obj)} {s : Shared} (h : GIp Y fp tn σw inv j pS s) : AllBare s.gens := by
  obtain ⟨H, I, st, fo, iv⟩ := h
  exact I.bare
theorem GIp.pat {j : Nat} {pS : List (Addr × Obj)} {s : Shared} (h : GIp Y fp tn σw inv j pS s) : pat pS s := by
  obtain ⟨H, I, st, fo, iv⟩ := h
  exact fun p hp => (I.pin p (List.mem_append_right _ hp)).1
/-- for its consumer at B -/
theorem gwk {B : Around} {a : Addr} {g : Nat} {go : Obj} {SS : List Addr} (G : GRun Y elt iter x px scope gpos B.in1 it fp tn J σw n At inv) (hh : B.handled = none) (hd : B.depth < recursionLimit) (hpn : (a, go) ∈ Y.pn) (hgo : go.cls = .type "generator" ∧ (∃ nm qn, go.data = .fields #[.int g 0, nm, qn]) ∧ go.slots = #[])
    (hSS : ∀ S ∈ SS, (S ∈ Y.ex ∨ Y.s_0.heap.objs.size ≤ S) ∧ S ≠ Y.env.locals ∧ (∀ x c, Y.env.cells.lookup x = some c → c ≠ S) ∧ (∀ p ∈ Y.pn, p.1 ≠ S) ∧ S ∉ fp ∧ S ∉ Y.fs) :
    GWk Y.prog Y.w B a n At SS (GSt Y B.in1 fp tn σw n At inv g SS) fun s => ∃ pS H j, Inv Y pS σw H s ∧ inv j H := by
  have isg : ∀ {j pS s}, GIp Y fp tn σw inv j pS s → s.heap.IsGen a g := fun {j pS s} h => by
    obtain ⟨H, I, st, fo, iv⟩ := h
    obtain ⟨h1, ⟨nm, qn, h2⟩, h3⟩ := hgo
    exact ⟨go, nm, qn, (I.pin (a, go) (List.mem_append_left _ hpn)).1, h1, h2, h3⟩
  have nol : ∀ {j pS s}, GIp Y fp tn σw inv j pS s → s.heap.NoLimit := fun {j pS s} h => by
    obtain ⟨H, I, st, fo, iv⟩ := h
    exact I.nolimit
  refine ⟨fun j pS s Q E hj hs hQ => ?_, fun pS s Q E hs hQ => ?_, fun j pS s hs => ?_, fun j pS s t hs => ?_, fun j pS s hs => hs.2.1.pat, fun j S o o' s h' t hs hk ho hc => ?_⟩
  · obtain ⟨hS, hI, gs, hgs, hgo'⟩ := hs
    have hgl : g < s.gens.size := (Array.getElem?_eq_some_iff.mp hgs).1
    obtain ⟨m, hm⟩ : ∃ m, n - j = m + 1 := ⟨n - j - 1, by omega⟩
    have hb1 : AllBare (s.setGen g .running).gens := allBare_setGen hI.bare rfl
    have gi1 : GIp Y fp tn σw inv j pS (s.setGen g .running) := GIp.gens (t' := s.toks) hI hb1
    refine GenW.wpAny_gsz (n := g + 1) hgl (next_genG (F := gEnd Y σw n inv SS) (Er := fun _ _ => False) (Y := gY Y fp tn σw n At inv SS) (n := n - j) hh (nol hI) hd (isg hI) hgs (hgo' _ pS hS gi1) (fun v s1 gs' hbare hv => ?_) (fun s1 hp h' hk => ?_) fun e s1 he => he.elim)
    · intro hsz
      obtain ⟨⟨y, ry, ay⟩, ⟨pS', hS', h0', gi'⟩, kap⟩ := hv
      have e1 : n - 1 - (n - j - 1) = j := by omega
      have e2 : n - (n - j - 1) = j + 1 := by omega
      rw [e1] at ay
      rw [e2] at gi'
      have hp1 : pat pS (s.setGen g .running) := hI.pat
      have eS : pS' = pS := pins_eq (hS'.trans hS.symm) h0' hp1
      subst eS
      have hsz1 : g < s1.gens.size := by
        have q : (s1.setGen g gs').gens.size = s1.gens.size := GenW.setGen_size _ _ _
        omega
      refine hQ y v _ ry ay ⟨hS', GIp.gens (t' := s1.toks) gi' (allBare_setGen gi'.bare hbare), gs', setGen_at hsz1, fun s'' pS'' hS'' gi'' => ?_⟩
      have kk := kap s'' pS'' hS'' (by rw [e2]; exact gi'')
      rw [hm] at kk
      have e3 : n - (j + 1) = m := by omega
      rw [e3]
      exact kk
    · obtain ⟨z, _⟩ := hp
      omega
  · obtain ⟨hS, hI, gs, hgs, hgo'⟩ := hs
    have hb1 : AllBare (s.setGen g .running).gens := allBare_setGen hI.bare rfl
    have gi1 : GIp Y fp tn σw inv n pS (s.setGen g .running) := GIp.gens (t' := s.toks) hI hb1
    refine next_genG (F := gEnd Y σw n inv SS) (Er := fun _ _ => False) (Y := gY Y fp tn σw n At inv SS) (n := n - n) hh (nol hI) hd (isg hI) hgs (hgo' _ pS hS gi1) (fun v s1 gs' hbare hv => ?_) (fun s1 hp h' hk => ?_) fun e s1 he => he.elim
    · obtain ⟨_, ⟨pS', hS', h0', gi'⟩, kap⟩ := hv
      have kk := kap s1 pS' hS' gi'
      rw [Nat.sub_self] at kk
      exact kk.elim
    · obtain ⟨_, pS', H', hS', h0', I', iv'⟩ := hp
      have I2 := I'.un (h' := h') (t' := s1.toks) (Un.kept hk) (I'.hok.kept hk)
      exact hQ _ ⟨pS', H', n, Inv.gensT (t' := s1.toks) I2 (allBare_setGen I'.bare rfl), iv'⟩
  · obtain ⟨hS, ⟨H, I, st, fo, iv⟩, _⟩ := hs
    exact ⟨pS, H, j, I, iv⟩
  · obtain ⟨hS, hI, gs, hgs, hgo'⟩ := hs
    exact ⟨hS, GIp.gens hI hI.bare, gs, hgs, hgo'⟩
  · obtain ⟨hS, ⟨H, I, st, fo, iv⟩, gs, hgs, hgo'⟩ := hs
    have hSS' : S ∈ SS := by rw [← hS]; exact List.mem_cons_self
    obtain ⟨q1, q2, q3, q4, q5, q6⟩ := hSS S hSS'
    have pS0 := I.pin (S, o) (List.mem_append_right _ List.mem_cons_self)
    have nt : ∀ b u, H b = some u → b ≠ S := fun b u e z => by
      have z2 : H S = none := pS0.2.1
      rw [z, z2] at e
      cases e
    have I0 : Inv Y [] σw H s := I.pins_of fun p hp => absurd hp (by simp)
    have I1 : Inv Y [] σw H { s with heap := h', toks := t } := I0.turned (it := S) (fun b u hb e => hk b u hb e) pS0.2.1 q2 q1 q3 fun p hp => q4 p (by simpa using hp)
    refine ⟨hS, ⟨H, I1.pins_of fun p hp => ?_, G.T.keep _ _ _ st fun b hb u e => hk b u (fun z => q5 (z ▸ hb)) e, fun b hb => ?_, iv⟩, gs, hgs, hgo'⟩
    · rw [List.mem_singleton.mp hp]
      exact ⟨ho, pS0.2.1, q2, q6, hc⟩
    · obtain ⟨f0, f1, f2, f3, f4, f5⟩ := fo b hb
      refine ⟨f0, f1, f2, f3, f4, fun p hp => ?_⟩
      rcases List.mem_append.mp hp with z | z
      · exact f5 p (List.mem_append_left _ z)
      · rw [List.mem_singleton.mp z]
        exact fun e => q5 (by rw [show S = b from e]; exact hb)
end
end DL

/-! Dl7: a generator expression is made; all, any, sum of it. -/
namespace DL
open PySem PySem.Spec PyProof.Rows L2

/-- the context of a generator expression's elements -/
abbrev genCx (X : Cx) (A' : Around) (s : Shared) (H : Hp) (cenv : Env) (fp : List Addr) (pn : List (Addr × Obj)) : Cx :=
  { X with A := A', s_0 := s, H_0 := H, env := cenv, outer := X.stack, stack := cenv :: X.stack, ex := fp, fn := fun _ => false, calm := true, pn := pn, xe := fun _ _ => False }
/-- the scope: what BlkOk asks, and no cells, .0 and x local -/
structure GOk (N : List Str) (sc scope : Scope) (x : Str) (i : Nat) : Prop where
  blk : BlkOk N sc scope [(x, i)]
  co : scope.isCoroutine = false
  cell : ∀ y ∈ scope.names, y.2 ≠ .cell
  dot : scope.names.lookup (".0" : Str) = some NameKind.local
  loc : scope.names.lookup x = some .local
section
variable {X : Cx} {pins : List (Addr × Obj)} {σ : L2.St} {H : Hp} {s : Shared}
theorem gen_start {scope : Scope} {x : Str} {i : Nat} {fp : List Addr} {A' : Around} {cenv : Env} {a : Addr} {go : Obj} {h5 : Heap} {g5 : Array GenState} {t5 : Nat} {m : Str → Option Value} {code : Value} (I : Inv X pins σ H s) (ok : GOk X.N X.env.scope scope x i) (hN : X.N.Nodup) (hfp : ∀ b ∈ fp, FpOk X pins H b ∧ b < s.heap.objs.size)
    (hce : cenv = genEnv scope (cloFrom X.env.cells scope.names []) s.heap.objs.size code builtinsNs X.env) (hA : A'.handled = none) (hfr : A'.frames = some (cenv :: X.stack))
    (kp : ∀ b o, s.heap.get? b = some o → h5.get? b = some o) (hn : h5.Ns s.heap.objs.size m) (ha : s.heap.objs.size < a) (hgo : h5.get? a = some go) (hgc : ∀ v, go.data ≠ .cell v) (hg5 : AllBare g5) :
    Inv (genCx X A' s H cenv fp [(a, go)]) [] (σ.set i none) H { s with heap := h5, gens := g5, toks := t5 } := by
  have hfree : ∀ y ∈ scope.names, y.2 = .free → ∃ c, X.env.cells.lookup y.1 = some c := fun y hy e => by
    rcases ok.blk.free y hy e with k | k
    · exact I.ok.has _ (.inl k)
    · exact I.ok.has _ (.inr k)
  have hL : cenv.locals = s.heap.objs.size := by rw [hce]; rfl
  have hcl : cenv.cells = cloFrom X.env.cells scope.names [] := by rw [hce]; rfl
  have hsc : cenv.scope = scope := by rw [hce]; rfl
  have cm : ∀ {y c}, (y, c) ∈ cloFrom X.env.cells scope.names [] → X.env.cells.lookup y = some c ∧ c < s.heap.objs.size := fun {y c} hm => by
    rcases cloFrom_mem hm with hm | ⟨h1, rfl⟩
    · cases hm
    · obtain ⟨c, hc⟩ := hfree _ h1 rfl
      rw [hc]
      obtain ⟨w, z⟩ := I.cell _ _ hc
      exact ⟨rfl, z.lt⟩
  have mem : ∀ {y c}, cenv.cells.lookup y = some c → X.env.cells.lookup y = some c ∧ c < s.heap.objs.size := fun {y c} e => by
    rw [hcl] at e
    exact cm (PySem.mem_of_lookup e)
  have look : ∀ {y}, scope.names.lookup y = some .free → ∃ c, cenv.cells.lookup y = some c ∧ X.env.cells.lookup y = some c := fun {y} hl => by
    have hy : (y, NameKind.free) ∈ scope.names := PySem.mem_of_lookup hl
    obtain ⟨c', e'⟩ := mem_lookup (cloFrom_has (cells := X.env.cells) (acc := []) hy)
    rw [← hcl] at e'
    exact ⟨c', e', (mem e').1⟩
  have nA : a ∉ frs X.stack := fun z => by
    rcases List.mem_cons.mp (I.stkSub a z) with z | z
    · exact absurd (Nat.lt_of_lt_of_le I.lt (Nat.le_of_lt ha)) (by rw [z]; exact Nat.lt_irrefl _)
    · exact I.nofs (Nat.le_of_lt ha) z
  have okB : (genCx X A' s H cenv fp [(a, go)]).Ok := by
    refine ⟨I.ok.mod, by show cenv.scope.kind = _; rw [hsc]; exact ok.blk.kind, by show cenv.globals = _; rw [hce]; exact I.ok.glob, by show cenv.builtins = _; rw [hce]; rfl, by show s.heap.objs.size ≤ cenv.locals; rw [hL]; exact Nat.le_refl _,
      fun y z c e1 e2 => I.ok.inj y z c (mem e1).1 (mem e2).1, fun y hy => ?_, fun y c z e => (by cases z), fun _ => hA, hfr, .inr ⟨rfl, ?_⟩, fun b hb => ⟨?_, fun y c e z => ?_⟩, I.bs, Nat.le_trans I.ok.bsz I.sz, fun b o e hb => ?_, fun b hb z => ?_, I.stack, I.stkFree⟩
    · show ∃ c, cenv.cells.lookup y = some c
      rcases hy with hy | hy
      · have hy' : cenv.scope.names.lookup y = some .cell := hy
        rw [hsc] at hy'
        exact absurd rfl (ok.cell _ (PySem.mem_of_lookup hy'))
      · have hy' : cenv.scope.names.lookup y = some .free := hy
        rw [hsc] at hy'
        obtain ⟨c, h1, _⟩ := look hy'
        exact ⟨c, h1⟩
    · show cenv.frame = some cenv.locals
      rw [hL, hce]; rfl
    · show b ≠ cenv.locals
      rw [hL]; exact Nat.ne_of_lt (hfp b hb).2
    · exact (hfp b hb).1.2.2.2.2.1 y c (mem e).1 z
    · rcases (hfp b hb).1.2.2.2.1 with z | z
      · exact I.ok.noex b o e z
      · exact absurd (Nat.lt_of_lt_of_le (Heap.lt_size e) (Nat.le_trans I.ok.bsz z)) (Nat.lt_irrefl _)
    · rcases List.mem_cons.mp (I.stkSub b z) with z | z
      · exact (hfp b hb).1.2.1 z
      · exact (hfp b hb).1.2.2.1 z
  refine ⟨okB, rfl, hg5, Un.kept kp, ⟨m, ?_, fun l y av e1 e2 e3 => ?_⟩, fun y c e => ?_, ?_, fun y c e => ?_, fun p hp => ?_, I.hok.kept kp, by rw [List.length_set]; exact I.len⟩
  · show Heap.Ns _ cenv.locals _
    rw [hL]
    exact hn
  · have hne : i ≠ l := fun z => by
      subst z
      by_cases hv : i < σ.length
      · rw [List.getElem?_set_self hv] at e2; cases e2
      · rw [List.getElem?_eq_none (by simpa using hv)] at e2; cases e2
    rw [List.getElem?_set_ne hne] at e2
    have hfr : scope.names.lookup y = some .free := by
      have no : ∀ k, scope.names.lookup y = some k → k = .local ∨ k = .cell → False := fun k e hh => by
        rcases ok.blk.own _ (PySem.mem_of_lookup e) hh with e' | e'
        · have ey : y = x := by simpa using e'
          have e3 := ok.blk.ix (x, i) List.mem_cons_self
          subst ey
          exact hne (nodup_ix hN e3 e1)
        · exact e' (List.mem_of_getElem? e1)
      have e3 : Vis cenv.scope y := e3
      rw [hsc] at e3
      rcases e3 with e3 | e3 | e3
      · exact (no _ e3 (.inl rfl)).elim
      · exact (no _ e3 (.inr rfl)).elim
      · exact e3
    obtain ⟨m', _, hl⟩ := I.loc
    have hvis : Vis X.env.scope y := (ok.blk.free _ (PySem.mem_of_lookup hfr) rfl).elim (fun k => .inr (.inl k)) (fun k => .inr (.inr k))
    obtain ⟨w, r, q⟩ := hl l y av e1 e2 hvis
    refine ⟨w, r, .inr ⟨.inr ?_, ?_⟩⟩
    · show cenv.scope.names.lookup y = some .free
      rw [hsc]; exact hfr
    · obtain ⟨c, h1, h2⟩ := look hfr
      rcases q with ⟨k, _⟩ | ⟨_, c', e', z⟩
      · have k : X.env.scope.names.lookup y = some .local := k
        rcases ok.blk.free _ (PySem.mem_of_lookup hfr) rfl with k' | k' <;> rw [show X.env.scope.names.lookup y = _ from k'] at k <;> cases k
      · rw [h2] at e'; cases e'
        exact ⟨c, h1, z.keeps kp⟩
  · obtain ⟨w, z⟩ := I.cell y c (mem e).1
    exact ⟨w, z.keeps kp⟩
  · show H cenv.locals = none
    rw [hL]; exact I.hok.fresh (Nat.le_refl _)
  · exact I.freeC y c (mem e).1
  · have hp' : p ∈ [(a, go)] ++ ([] : List (Addr × Obj)) := hp
    rw [List.append_nil] at hp'
    rw [List.mem_singleton.mp hp']
    refine ⟨hgo, I.hok.fresh (Nat.le_of_lt ha), ?_, nA, hgc⟩
    show a ≠ cenv.locals
    rw [hL]; exact Nat.ne_of_gt ha

/-- a generator stands at a, ready to be walked -/
def Rdy (X : Cx) (pins : List (Addr × Obj)) (σ : L2.St) (n : Nat) (At : Nat → V → Prop) (inv : Nat → Hp → Prop) (a : Addr) (s5 : Shared) : Prop :=
  ∃ g, s5.heap.IsGen a g ∧ ∀ SS : List Addr, (∀ S ∈ SS, s5.heap.objs.size ≤ S) → ∃ (St : Nat → List (Addr × Obj) → Shared → Prop) (Fi : Shared → Prop), GWk X.prog X.w X.A.in1 a n At SS St Fi ∧
    (∀ (pS : List (Addr × Obj)) (h' : Heap) (t : Nat), pS.map (·.1) = SS → (∀ b o, s5.heap.get? b = some o → h'.get? b = some o) → (∀ p ∈ pS, h'.get? p.1 = some p.2 ∧ ∀ v, p.2.data ≠ .cell v) → St 0 pS { s5 with heap := h', toks := t }) ∧
    ∀ s', Fi s' → ∃ H j, Inv X pins σ H s' ∧ inv j H
/-- what the elements are to keep -/
def GStep (te : TE) (σ : L2.St) (i : Nat) (J : It) (H2 : Hp) (n : Nat) (At : Nat → V → Prop) (inv : Nat → Hp → Prop) : Prop :=
  inv 0 H2 ∧ (∀ H, inv n H → J.stop n H) ∧ (∀ j H, j < n → inv j H → J.go j H) ∧ ∀ j H v H', j < n → inv j H → J.yld j H v H' → te ((σ.set i none).set i (some v)) H' fun y H'' => At j y ∧ inv (j + 1) H''
theorem gen_make {c Pt : Addr} {elt iter : Expr} {x : Str} {i k : Nat} {px gpos : Pos} {scope : Scope} {wi : TI} {te : TE} {Q' : Value → Shared → Prop}
    (hr : Room (k + 1) X.A) (TB : GxR.TabB X.base X.mg c Pt) (hcode : X.env.code = .ref c) (ok : GOk X.N X.env.scope scope x i) (hN : X.N.Nodup) (hi : PI X (.Name x px) iter wi)
    (hg : ∀ (A' : Around) (s : Shared) (H : Hp) (C bi : Addr) (cl : List (Str × Addr)) (code : Value) (fp : List Addr) (pn : List (Addr × Obj)), Room k A' → PG (genCx X A' s H (genEnv scope cl C code bi X.env) fp pn) (.Name x px) (gName i))
    (he : ∀ (A' : Around) (s : Shared) (H : Hp) (C bi : Addr) (cl : List (Str × Addr)) (code : Value) (fp : List Addr) (pn : List (Addr × Obj)), Room k A' → PE (genCx X A' s H (genEnv scope cl C code bi X.env) fp pn) elt te)
    (hs : ∀ v, genFold iter X.env v = pure v) (I : Inv X pins σ H s)
    (h : wi σ H fun J H1 => GxR.TabG H1 Pt ∧ ∀ H2, GxR.Tabbed Pt H1 H2 → ∃ n At inv, GStep te σ i J H2 n At inv ∧ ∀ a s5, Rdy X pins σ n At inv a s5 → Q' (.ref a) s5) :
    wpAny (model X.prog X.w) X.A (eval (.GeneratorExp elt [⟨.Name x px, iter, [], 0⟩] scope gpos) X.env) Q' X.xe s := by
  have hfree : ∀ y ∈ scope.names, y.2 = .free → ∃ c, X.env.cells.lookup y.1 = some c := fun y hy e => by
    rcases ok.blk.free y hy e with k | k
    · exact I.ok.has _ (.inl k)
    · exact I.ok.has _ (.inr k)
  refine wpAny_GeneratorExp_make ok.co (closure_ok hfree) ok.cell ok.dot ok.blk.kind (by have := hr.dp; omega) ?_ hs
  refine thn (hi.run pins s σ H _ I h) fun xv s1 hx => thn hx fun itv s2 h2 => ?_
  obtain ⟨it, fp, tn, J, H1, e, I2, T, st2, f2, ⟨ps, hP, ht⟩, q⟩ := h2
  subst e
  refine ⟨I2.nolimit, ?_⟩
  have hPs : s2.heap.get? Pt = some { cls := .none, data := .fields ps } := I2.hok Pt _ hP
  have cd : PySem.W.CodeHd s2.heap c Pt := TB.code.keeps I2.bk
  have cont : ∀ (code : Value) (h3 : Heap) (tk : Nat) (ps' : Array Value), Heap.ExtBut Pt s2.heap h3 → s2.heap.objs.size ≤ h3.objs.size → h3.get? Pt = some { cls := .none, data := .fields ps' } → (∃ more, ps' = ps ++ more) → TriplesOk ps'.toList →
      wpAny (model X.prog X.w) X.A (builtinsFor X.env.globals X.env.builtins) (fun bi s₄ =>
        ∀ h', h'.Ns s₄.heap.objs.size (fun y => if y = ".0" then some (.ref it) else none) → Heap.SameBut s₄.heap.objs.size (s₄.heap.push { cls := .type "frame", data := .dict #[] }) h' →
          Q' (.ref h'.objs.size) { s₄ with
            gens := s₄.gens.push (.fresh (.compStart (.GeneratorExp elt [⟨.Name x px, iter, [], 0⟩] scope gpos) 0 (.ref it) .none (genEnv scope (cloFrom X.env.cells scope.names []) s₄.heap.objs.size code bi X.env))),
            toks := s₄.toks + 1 + 1 + 1,
            heap := h'.push { cls := .type "generator", data := .fields #[.int s₄.gens.size 0, .str "<genexpr>" (s₄.toks + 1), .str (X.env.qual ++ "<genexpr>") (s₄.toks + 1 + 1)] } }) X.xe { s2 with heap := h3, toks := tk } := by
    intro code h3 tk ps' hx3 hsz hP3 hmore ht3
    obtain ⟨bm, ob, e1, e2, e3, e4, e5, e6, e7, e8⟩ := TB.bm
    have keep3 : ∀ b u, b ≠ Pt → s2.heap.get? b = some u → h3.get? b = some u := fun b u hb e => hx3 b u hb e
    refine wpAny_builtinsFor (m := X.mg) (by rw [I2.ok.glob]; exact (I2.mod.glob.keeps I2.bk).extBut hx3 TB.gP) e1 e2 (keep3 _ _ e4 (I2.bk _ _ e5)) e6 e7 e8 ?_
    obtain ⟨more, em⟩ := hmore
    have J3 := GxR.inv_tab (more := more) (h' := h3) (g' := s2.gens) (d' := s2.drawn) (t' := tk) I2 hP (fun b u hb e => keep3 b u hb e) (by rw [← em]; exact hP3) I2.bare
    obtain ⟨n, At, inv, ⟨iv0, hstop, hgo, hstep⟩, hq⟩ := q (upd H1 Pt (.tbl (ps ++ more))) ⟨⟨ps ++ more, upd_same, by rw [← em]; exact ht3⟩, fun b hb => upd_ne hb⟩
    have nPt : ∀ b ∈ fp, b ≠ Pt := fun b hb z => by
      have := (f2 b hb).1
      rw [z, hP] at this
      cases this
    have sz2 : ∀ b ∈ fp, b < s2.heap.objs.size := fun b hb => by
      obtain ⟨o, e, _⟩ := T.obj _ _ st2 b hb
      exact Heap.lt_size e
    have f3 : ∀ b ∈ fp, FpOk X pins (upd H1 Pt (.tbl (ps ++ more))) b ∧ b < h3.objs.size := fun b hb => ⟨⟨by rw [upd_ne (nPt b hb)]; exact (f2 b hb).1, (f2 b hb).2⟩, Nat.lt_of_lt_of_le (sz2 b hb) hsz⟩
    have st3 : tn 0 h3 := T.keep _ _ _ st2 fun b hb o e => keep3 b o (nPt b hb) e
    intro h' hn' hs'
    generalize hce : genEnv scope (cloFrom X.env.cells scope.names []) h3.objs.size code builtinsNs X.env = cenv
    show Q' (.ref h'.objs.size) { s2 with gens := s2.gens.push (.fresh (.compStart (.GeneratorExp elt [⟨.Name x px, iter, [], 0⟩] scope gpos) 0 (.ref it) .none cenv)), toks := tk + 1 + 1 + 1, heap := h'.push { cls := .type "generator", data := .fields #[.int s2.gens.size 0, .str "<genexpr>" (tk + 1), .str (X.env.qual ++ "<genexpr>") (tk + 1 + 1)] } }
    have hsz' : h'.objs.size = h3.objs.size + 1 := by rw [hs'.1, Heap.size_push]
    have lt35 : h3.objs.size < h'.objs.size := by rw [hsz']; exact Nat.lt_succ_self _
    have keep' : ∀ b o, h3.get? b = some o → h'.get? b = some o := fun b o e => hs'.extBut b o (Nat.ne_of_lt (Heap.lt_size e)) (Heap.get?_push_of_some _ e)
    generalize hgobj : ({ cls := .type "generator", data := .fields #[.int s2.gens.size 0, .str "<genexpr>" (tk + 1), .str (X.env.qual ++ "<genexpr>") (tk + 1 + 1)] } : Obj) = go
    have gshape : go.cls = .type "generator" ∧ (∃ nm qn, go.data = .fields #[.int s2.gens.size 0, nm, qn]) ∧ go.slots = #[] := by
      rw [← hgobj]; exact ⟨rfl, ⟨_, _, rfl⟩, rfl⟩
    have gpush : (h'.push go).get? h'.objs.size = some go := by rw [← hgobj]; exact Heap.get?_push_size _ rfl
    have kp5 : ∀ b o, h3.get? b = some o → (h'.push go).get? b = some o := fun b o e => Heap.get?_push_of_some _ (keep' b o e)
    have hg5 : AllBare (s2.gens.push (.fresh (.compStart (.GeneratorExp elt [⟨.Name x px, iter, [], 0⟩] scope gpos) 0 (.ref it) .none cenv))) := AllBare.push I2.bare rfl
    have hgd : ∀ v, go.data ≠ .cell v := fun v z => by rw [← hgobj] at z; cases z
    have hfr : ((X.A.in1.in1).over (.compLoop (.GeneratorExp elt [⟨.Name x px, iter, [], 0⟩] scope gpos) 0 (.ref it) .none cenv) []).frames = some (cenv :: X.stack) := by
      have z := I2.ok.frames
      show pushEnvs [cenv] (pushEnvs [] X.A.frames) = _
      rw [z]
      rfl
    generalize hA' : (X.A.in1.in1).over (.compLoop (.GeneratorExp elt [⟨.Name x px, iter, [], 0⟩] scope gpos) 0 (.ref it) .none cenv) [] = A' at hfr
    have hdA : A'.handled = none := by rw [← hA']; exact hr.hd
    have rA : Room k A' := by
      rw [← hA']
      exact ⟨hr.hd, by have := hr.dp; show X.A.depth + 0 + 1 + 3 * k + 5 < _; omega, by have := hr.un; show X.A.units + 1 + 1 + 0 + 3 + 16 * k + 200 < _; omega⟩
    have IY : Inv (genCx X A' { s2 with heap := h3, toks := tk } (upd H1 Pt (.tbl (ps ++ more))) cenv fp [(h'.objs.size, go)]) [] (σ.set i none) (upd H1 Pt (.tbl (ps ++ more))) { s2 with heap := h'.push go, gens := s2.gens.push (.fresh (.compStart (.GeneratorExp elt [⟨.Name x px, iter, [], 0⟩] scope gpos) 0 (.ref it) .none cenv)), toks := tk + 1 + 1 + 1 } :=
      gen_start (t5 := tk + 1 + 1 + 1) J3 ok hN f3 hce.symm hdA hfr kp5 (hn'.push _) (by show h3.objs.size < _; omega) gpush hgd hg5
    have fY : ∀ b ∈ fp, FpOk (genCx X A' { s2 with heap := h3, toks := tk } (upd H1 Pt (.tbl (ps ++ more))) cenv fp [(h'.objs.size, go)]) [] (upd H1 Pt (.tbl (ps ++ more))) b := fun b hb =>
      ⟨(f3 b hb).1.1, (IY.ok.exf b hb).1, IY.ok.exfs b hb, .inl hb, fun y c e => (IY.ok.exf b hb).2 y c e, fun p hp => by
        have hp' : p ∈ [(h'.objs.size, go)] ++ ([] : List (Addr × Obj)) := hp
        rw [List.append_nil] at hp'
        rw [List.mem_singleton.mp hp']
        exact Nat.ne_of_gt (Nat.lt_trans (f3 b hb).2 lt35)⟩
    have G : GRun (genCx X A' { s2 with heap := h3, toks := tk } (upd H1 Pt (.tbl (ps ++ more))) cenv fp [(h'.objs.size, go)]) elt iter x px scope gpos X.A.in1.in1 it fp tn J (σ.set i none) n At inv := by
      refine ⟨rfl, rfl, by show cenv.scope.isCoroutine = false; rw [← hce]; exact ok.co, T, fun cc hcc => ?_, hstop, hgo, ⟨i, te, ?_, ?_, fun v => ⟨List.length_set, fun l u e => ?_⟩, hstep⟩⟩
      · rcases hcc with e | e
        · subst e; exact hA'
        · subst e; rw [← hA']; rfl
      · subst hce; exact hg A' _ _ _ _ _ _ _ _ rA
      · subst hce; exact he A' _ _ _ _ _ _ _ _ rA
      · have hne : i ≠ l := fun z => by
          subst z
          by_cases hv : i < σ.length
          · rw [List.getElem?_set_self hv] at e; cases e
          · rw [List.getElem?_eq_none (by simpa using hv)] at e; cases e
        rw [List.getElem?_set_ne hne]
        exact e
    have hcl : cenv.locals = h3.objs.size := by rw [← hce]; rfl
    refine hq _ _ ⟨s2.gens.size, ?_, fun SS hSS => ⟨_, _, gwk (Y := genCx X A' { s2 with heap := h3, toks := tk } (upd H1 Pt (.tbl (ps ++ more))) cenv fp [(h'.objs.size, go)]) (B := X.A.in1) (SS := SS) G hr.hd (by have := hr.dp; show X.A.depth < _; omega) List.mem_cons_self gshape fun S hS => ?_, fun pS h6 t6 hpS hk6 hp6 => ?_, fun s' hf => ?_⟩⟩
    · obtain ⟨g1, ⟨nm, qn, g2⟩, g3⟩ := gshape
      exact ⟨go, nm, qn, gpush, g1, g2, g3⟩
    · have hS' : (h'.push go).objs.size ≤ S := hSS S hS
      rw [Heap.size_push] at hS'
      have hS2 : h3.objs.size < S := Nat.lt_trans lt35 (Nat.lt_of_lt_of_le (Nat.lt_succ_self _) hS')
      refine ⟨.inr (Nat.le_of_lt hS2), ?_, fun y c e z => ?_, fun p hp => ?_, fun hb => ?_, fun z => ?_⟩
      · show S ≠ cenv.locals
        rw [hcl]; exact Nat.ne_of_gt hS2
      · obtain ⟨v, o, ho, _⟩ := IY.cell y c e
        have := Heap.lt_size ho
        have hlt : c < (h'.push go).objs.size := this
        rw [Heap.size_push] at hlt
        subst z
        exact absurd (Nat.lt_of_lt_of_le hlt hS') (Nat.lt_irrefl _)
      · have hp' : p ∈ [(h'.objs.size, go)] := hp
        rw [List.mem_singleton.mp hp']
        exact Nat.ne_of_lt (Nat.lt_of_lt_of_le (Nat.lt_succ_self _) hS')
      · exact absurd (Nat.lt_trans (f3 S hb).2 hS2) (Nat.lt_irrefl _)
      · exact J3.nofs (a := S) (Nat.le_of_lt hS2) (by
          rcases List.mem_cons.mp (J3.stkSub S z) with z | z
          · have hz : S < h3.objs.size := by rw [z]; exact J3.lt
            exact absurd (Nat.lt_trans hz hS2) (Nat.lt_irrefl _)
          · exact z)
    · have pq : ∀ p ∈ pS, (h'.push go).objs.size ≤ p.1 := fun p hp => hSS p.1 (by rw [← hpS]; exact List.mem_map_of_mem hp)
      have I6 : Inv (genCx X A' { s2 with heap := h3, toks := tk } (upd H1 Pt (.tbl (ps ++ more))) cenv fp [(h'.objs.size, go)]) [] (σ.set i none) (upd H1 Pt (.tbl (ps ++ more))) { s2 with heap := h6, gens := s2.gens.push (.fresh (.compStart (.GeneratorExp elt [⟨.Name x px, iter, [], 0⟩] scope gpos) 0 (.ref it) .none cenv)), toks := t6 } :=
        IY.un (h' := h6) (t' := t6) (Un.kept hk6) (IY.hok.kept hk6)
      refine ⟨hpS, ⟨_, I6.pins_of fun p hp => ?_, T.keep _ _ _ st3 fun b _ o e => hk6 b o (kp5 b o e), fun b hb => ?_, iv0⟩, _, Array.getElem?_push_size .., fun s'' pS' hpS' gi => ?_⟩
      · have hlt := pq p hp
        rw [Heap.size_push] at hlt
        have hlt3 : h3.objs.size < p.1 := Nat.lt_trans lt35 (Nat.lt_of_lt_of_le (Nat.lt_succ_self _) hlt)
        refine ⟨(hp6 p hp).1, J3.hok.fresh (Nat.le_of_lt hlt3), ?_, ?_, (hp6 p hp).2⟩
        · show p.1 ≠ cenv.locals
          rw [hcl]; exact Nat.ne_of_gt hlt3
        · exact fun z => J3.nofs (a := p.1) (Nat.le_of_lt hlt3) (by
            rcases List.mem_cons.mp (J3.stkSub p.1 z) with z | z
            · have hz : p.1 < h3.objs.size := by rw [z]; exact J3.lt
              exact absurd (Nat.lt_trans hz hlt3) (Nat.lt_irrefl _)
            · exact z)
      · obtain ⟨q0, q1, q2, q3, q4, q5⟩ := fY b hb
        refine ⟨q0, q1, q2, q3, q4, fun p hp => ?_⟩
        rcases List.mem_append.mp hp with z | z
        · exact q5 p (List.mem_append_left _ z)
        · have hlt := pq p z
          rw [Heap.size_push] at hlt
          exact Nat.ne_of_gt (Nat.lt_trans (Nat.lt_trans (f3 b hb).2 lt35) (Nat.lt_of_lt_of_le (Nat.lt_succ_self _) hlt))
      · have gp := gi.pat
        refine ⟨rfl, ?_⟩
        rw [Nat.sub_zero]
        exact gen_begin G SS _ s'' pS' hpS' gp gi
    · obtain ⟨pS, H', j, IY', iv'⟩ := hf
      refine ⟨H', j, ?_, iv'⟩
      exact J3.call' (ch := fp) IY'.os IY'.base IY'.hok IY'.bare fun b hb => ⟨(f3 b hb).1.2.2.2.1, (f3 b hb).1.2.1, (f3 b hb).1.2.2.2.2.1, (f3 b hb).1.2.2.2.2.2⟩
  cases hf : codeAmong gpos ps.toList with
  | none =>
    refine wpAny_genexprCodeX hcode (cd.code hPs ht) (cd.tab hPs) hf fun c' h' tk hx3 hge hlt hco' _ htab' _ => ?_
    obtain ⟨o1, vs, f1, tf, fl, tg, inF, tx, tt, op, _, _, _, _, _, _, _, _, _, htr, _⟩ := hco'
    exact cont _ h' tk _ hx3 (Nat.le_trans hge (Nat.le_of_lt hlt)) htab'.2 ⟨_, rfl⟩ htr
  | some cv =>
    refine wpAny_genexprCode_hit hcode (cd.code hPs ht) hf ?_
    exact cont cv s2.heap s2.toks ps (Heap.ExtBut.refl _ _) (Nat.le_refl _) hPs ⟨#[], by simp⟩ ht
end
end DL

/-! Dl8: all, any, sum of a generator expression, over data. -/
namespace DL
open PySem PySem.Spec PyProof.Rows L2

def gnD (i : Nat) (fe : Fe) (env : SE) : List PyData → Option (List PyData)
  | [] => some []
  | d :: ds => (fe (env.set i (.dat d))).bind fun y => (gnD i fe env ds).bind fun r => some (y :: r)
def blsOf : List PyData → Option (List Bool)
  | [] => some []
  | .bool b :: ds => (blsOf ds).bind fun r => some (b :: r)
  | _ => none
def ksOf : List PyData → Option (List Int)
  | [] => some []
  | .int b :: ds => (ksOf ds).bind fun r => some (b :: r)
  | _ => none
theorem gnD_cons {i : Nat} {fe : Fe} {env : SE} {d : PyData} {ds ys : List PyData} (h : gnD i fe env (d :: ds) = some ys) : ∃ y r, fe (env.set i (.dat d)) = some y ∧ gnD i fe env ds = some r ∧ ys = y :: r := by
  unfold gnD at h
  cases e1 : fe (env.set i (.dat d)) with
  | none => rw [e1] at h; cases h
  | some y =>
    rw [e1] at h
    have h1 : ((gnD i fe env ds).bind fun r => some (y :: r)) = some ys := h
    cases e2 : gnD i fe env ds with
    | none => rw [e2] at h1; cases h1
    | some r => rw [e2] at h1; cases h1; exact ⟨y, r, rfl, rfl, rfl⟩
theorem gnD_get {i : Nat} {fe : Fe} {env : SE} : ∀ {ds ys : List PyData} {j : Nat} {d : PyData}, gnD i fe env ds = some ys → ds[j]? = some d → ∃ y, ys[j]? = some y ∧ fe (env.set i (.dat d)) = some y
  | [], _, _, _, _, h => by cases h
  | d :: ds, ys, j, d', h, hj => by
    obtain ⟨y, r, h1, h2, h3⟩ := gnD_cons h
    subst h3
    cases j with
    | zero => cases hj; exact ⟨y, rfl, h1⟩
    | succ j => exact gnD_get (j := j) h2 hj
theorem gnD_len {i : Nat} {fe : Fe} {env : SE} : ∀ {ds ys : List PyData}, gnD i fe env ds = some ys → ys.length = ds.length
  | [], _, h => by cases h; rfl
  | d :: ds, ys, h => by
    obtain ⟨y, r, h1, h2, h3⟩ := gnD_cons h
    subst h3
    exact congrArg Nat.succ (gnD_len h2)
theorem blsOf_cons {y : PyData} {ds : List PyData} {bs : List Bool} (h : blsOf (y :: ds) = some bs) : ∃ b r, y = .bool b ∧ blsOf ds = some r ∧ bs = b :: r := by
  cases y with
  | bool b =>
    have h1 : ((blsOf ds).bind fun r => some (b :: r)) = some bs := h
    cases e2 : blsOf ds with
    | none => rw [e2] at h1; cases h1
    | some r => rw [e2] at h1; cases h1; exact ⟨b, r, rfl, rfl, rfl⟩
  | _ => cases h
theorem ksOf_cons {y : PyData} {ds : List PyData} {bs : List Int} (h : ksOf (y :: ds) = some bs) : ∃ b r, y = .int b ∧ ksOf ds = some r ∧ bs = b :: r := by
  cases y with
  | int b =>
    have h1 : ((ksOf ds).bind fun r => some (b :: r)) = some bs := h
    cases e2 : ksOf ds with
    | none => rw [e2] at h1; cases h1
    | some r => rw [e2] at h1; cases h1; exact ⟨b, r, rfl, rfl, rfl⟩
  | _ => cases h
theorem blsOf_get : ∀ {ys : List PyData} {bs : List Bool} {j : Nat} {y : PyData}, blsOf ys = some bs → ys[j]? = some y → y = .bool (bs.getD j false)
  | [], _, _, _, _, h => by cases h
  | y :: ys, bs, j, d', h, hj => by
    obtain ⟨b, r, h1, h2, h3⟩ := blsOf_cons h
    subst h3
    cases j with
    | zero => cases hj; exact h1
    | succ j => exact blsOf_get (j := j) h2 hj
theorem ksOf_get : ∀ {ys : List PyData} {bs : List Int} {j : Nat} {y : PyData}, ksOf ys = some bs → ys[j]? = some y → y = .int (bs.getD j 0)
  | [], _, _, _, _, h => by cases h
  | y :: ys, bs, j, d', h, hj => by
    obtain ⟨b, r, h1, h2, h3⟩ := ksOf_cons h
    subst h3
    cases j with
    | zero => cases hj; exact h1
    | succ j => exact ksOf_get (j := j) h2 hj
theorem blsOf_len : ∀ {ys : List PyData} {bs : List Bool}, blsOf ys = some bs → ys.length = bs.length
  | [], _, h => by cases h; rfl
  | y :: ys, bs, h => by
    obtain ⟨b, r, h1, h2, h3⟩ := blsOf_cons h
    subst h3
    exact congrArg Nat.succ (blsOf_len h2)
theorem ksOf_len : ∀ {ys : List PyData} {bs : List Int}, ksOf ys = some bs → ys.length = bs.length
  | [], _, h => by cases h; rfl
  | y :: ys, bs, h => by
    obtain ⟨b, r, h1, h2, h3⟩ := ksOf_cons h
    subst h3
    exact congrArg Nat.succ (ksOf_len h2)
theorem range_mapD {α : Type} (d : α) (l : List α) : (List.range l.length).map (fun j => l.getD j d) = l := by
  refine List.ext_getElem (by simp) fun i h1 h2 => ?_
  simp only [List.getElem_map, List.getElem_range]
  rw [List.getD_eq_getElem?_getD, List.getElem?_eq_getElem h2]
  rfl
theorem range_allD (l : List Bool) : (List.range l.length).all (fun j => l.getD j false) = l.all id := by
  conv => rhs; rw [← range_mapD false l]
  rw [List.all_map]
  rfl
theorem range_anyD (l : List Bool) : (List.range l.length).any (fun j => l.getD j false) = l.any id := by
  conv => rhs; rw [← range_mapD false l]
  rw [List.any_map]
  rfl
section
variable {cs : Cs} {G1 H1 H2 H0 : Hp} {Pt : Addr} {σ : L2.St} {env : SE}
theorem ext_tabbed (w : Wd cs G1 H1) (hPt : Tab cs Pt) (hT : GxR.Tabbed Pt H1 H2) : Ext cs G1 H1 G1 H2 := by
  obtain ⟨t1, t2⟩ := hT
  refine ⟨⟨fun b o e => ?_, fun b t => ?_, w.out⟩, fun b o e t => ?_, Gle.refl _, fun b e n => e⟩
  · have hb : b ≠ Pt := fun z => by rw [z, w.out Pt hPt] at e; cases e
    rw [t2 b hb]; exact w.sub _ _ e
  · by_cases hb : b = Pt
    · rw [hb]; exact t1
    · obtain ⟨ps, p1, p2⟩ := w.tab b t
      exact ⟨ps, by rw [t2 b hb]; exact p1, p2⟩
  · have hb : b ≠ Pt := fun z => t (z ▸ hPt)
    rw [t2 b hb]; exact e
theorem gstep_of {i : Nat} {fe : Fe} {J : It} {items ys : List PyData} {At : Nat → V → Prop} (w : Wd cs G1 H1) (er : EnvR H0 G1 H1 σ env) (xT : Ext cs G1 H1 G1 H2) (yl : Yields cs G1 J items) (eg : gnD i fe (env.set i .no) items = some ys)
    (hA : ∀ (j : Nat) (y : PyData) (G4 : Hp), ys[j]? = some y → ∀ {v : V}, Rp G4 v y → At j v) : GStep (tD cs fe) σ i J H2 items.length At fun _ H' => ∃ G', Ext cs G1 H2 G' H' := by
  refine ⟨⟨G1, Ext.refl xT.wd⟩, fun H ⟨G', x⟩ => (yl G' H x.old x.wd _).1 rfl, fun j H hj ⟨G', x⟩ => ((yl G' H x.old x.wd j).2 items[j] (List.getElem?_eq_getElem hj)).1, fun j H v H' hj ⟨G', x⟩ hy => ?_⟩
  obtain ⟨G3, x3, rv⟩ := ((yl G' H x.old x.wd j).2 items[j] (List.getElem?_eq_getElem hj)).2 v H' hy
  obtain ⟨y, y1, y2⟩ := gnD_get eg (List.getElem?_eq_getElem hj)
  have x23 := x.trans x3
  have er3 : EnvR H0 G3 H' (σ.set i none) (env.set i .no) := ((er.ext w xT).ext xT.wd x23).set rfl trivial
  refine ⟨H0, G3, _, y, x3.wd, er3.setD i rv, y2, fun G4 H4 yv x4 ry => ⟨hA j y G4 y1 ry, G4, x23.trans x4⟩⟩
end
section
variable {X : Cx} {cs : Cs}

def fAll (i : Nat) (fi : Fs) (fe : Fe) : Fe := fun env => (fi env).bind fun items => (gnD i fe (env.set i .no) items).bind fun ys => (blsOf ys).bind fun bs => some (.bool (bs.all id))
theorem de_all {c Pt : Addr} {elt iter : Expr} {x : Str} {i k : Nat} {px p pos gpos : Pos} {scope : Scope} {fi : Fs} {fe : Fe}
    (hr : Room (k + 1) X.A) (TB : GxR.TabB X.base X.mg c Pt) (hPt : Tab cs Pt) (hcode : X.env.code = .ref c) (ok : GOk X.N X.env.scope scope x i) (hN : X.N.Nodup) (hm : X.mg "all" = none) (hi : PI X (.Name x px) iter (tDI cs fi))
    (hg : ∀ (A' : Around) (s : Shared) (H : Hp) (C bi : Addr) (cl : List (Str × Addr)) (code : Value) (fp : List Addr) (pn : List (Addr × Obj)), Room k A' → PG (genCx X A' s H (genEnv scope cl C code bi X.env) fp pn) (.Name x px) (gName i))
    (he : ∀ (A' : Around) (s : Shared) (H : Hp) (C bi : Addr) (cl : List (Str × Addr)) (code : Value) (fp : List Addr) (pn : List (Addr × Obj)), Room k A' → PE (genCx X A' s H (genEnv scope cl C code bi X.env) fp pn) elt (tD cs fe))
    (hgl : Gl X "all" := by rfl) (hs : ∀ v, genFold iter X.env v = pure v := by intro _; rfl)
    (hse : starEach [.GeneratorExp elt [⟨.Name x px, iter, [], 0⟩] scope gpos] X.env = (false, eval (.GeneratorExp elt [⟨.Name x px, iter, [], 0⟩] scope gpos) X.env) :: starEach [] X.env := by rfl) :
    PE X (.Call (.Name "all" p) [.GeneratorExp elt [⟨.Name x px, iter, [], 0⟩] scope gpos] [] pos) (tD cs (fAll i fi fe)) := by
  refine ⟨fun pins s σ H Q I h => ?_⟩
  obtain ⟨H0, G, env, d, w, er, e, q⟩ := h
  unfold fAll at e
  cases ef : fi env with
  | none => rw [ef] at e; cases e
  | some items =>
    rw [ef] at e
    have e1 : ((gnD i fe (env.set i .no) items).bind fun ys => (blsOf ys).bind fun bs => some (PyData.bool (bs.all id))) = some d := e
    cases eg : gnD i fe (env.set i .no) items with
    | none => rw [eg] at e1; cases e1
    | some ys =>
      rw [eg] at e1
      have e2 : ((blsOf ys).bind fun bs => some (PyData.bool (bs.all id))) = some d := e1
      cases eb : blsOf ys with
      | none => rw [eb] at e2; cases e2
      | some bs =>
        rw [eb] at e2
        cases e2
        refine wpAny_Call_Name_kw (ld_blt I hgl hm (by decide +kernel : bootBuiltins "all" = some (.builtin "all")) ?_)
        refine PyProof.Rows.callWith_builtin1 ?_ hse (by rfl)
        rw [hse]
        show wpAny _ _ (spliced ((false, eval (.GeneratorExp elt [⟨.Name x px, iter, [], 0⟩] scope gpos) X.env) :: backTo pos (starEach [] X.env))) _ _ s
        refine Calls.spliced_cons (gen_make hr TB hcode ok hN hi hg he hs I ⟨H0, G, env, items, w, er, ef, fun G1 H1 J x1 yl => ⟨x1.wd.tab Pt hPt, fun H2 hT => ?_⟩⟩)
        have xT := ext_tabbed x1.wd hPt hT
        refine ⟨items.length, BlAt fun j => bs.getD j false, fun _ H' => ∃ G', Ext cs G1 H2 G' H', gstep_of (σ := σ) x1.wd (er.ext w x1) xT yl eg fun j y G4 hy v ry => ?_, fun a s5 rdy => ?_⟩
        · have hb := blsOf_get eb hy
          rw [hb] at ry
          exact ry.bl_inv
        · refine Calls.spliced_nil ?_
          obtain ⟨g, hg5, f⟩ := rdy
          obtain ⟨St, Fi, W, hst, hfi⟩ := f [] fun S hS => absurd hS (by simp)
          refine call_allG hg5 W (hst [] s5.heap s5.toks rfl (fun _ _ z => z) fun p hp => absurd hp (by simp)) fun s' hf => ?_
          obtain ⟨H', j, I', G', x'⟩ := hfi s' hf
          have hl : items.length = bs.length := by rw [← gnD_len eg, blsOf_len eb]
          rw [hl, range_allD]
          exact ⟨.bl _, H', I', rfl, q G' H' _ (x1.trans (xT.trans x')) (.bl _)⟩

def fAny (i : Nat) (fi : Fs) (fe : Fe) : Fe := fun env => (fi env).bind fun items => (gnD i fe (env.set i .no) items).bind fun ys => (blsOf ys).bind fun bs => some (.bool (bs.any id))
theorem de_any {c Pt : Addr} {elt iter : Expr} {x : Str} {i k : Nat} {px p pos gpos : Pos} {scope : Scope} {fi : Fs} {fe : Fe}
    (hr : Room (k + 1) X.A) (TB : GxR.TabB X.base X.mg c Pt) (hPt : Tab cs Pt) (hcode : X.env.code = .ref c) (ok : GOk X.N X.env.scope scope x i) (hN : X.N.Nodup) (hm : X.mg "any" = none) (hi : PI X (.Name x px) iter (tDI cs fi))
    (hg : ∀ (A' : Around) (s : Shared) (H : Hp) (C bi : Addr) (cl : List (Str × Addr)) (code : Value) (fp : List Addr) (pn : List (Addr × Obj)), Room k A' → PG (genCx X A' s H (genEnv scope cl C code bi X.env) fp pn) (.Name x px) (gName i))
    (he : ∀ (A' : Around) (s : Shared) (H : Hp) (C bi : Addr) (cl : List (Str × Addr)) (code : Value) (fp : List Addr) (pn : List (Addr × Obj)), Room k A' → PE (genCx X A' s H (genEnv scope cl C code bi X.env) fp pn) elt (tD cs fe))
    (hgl : Gl X "any" := by rfl) (hs : ∀ v, genFold iter X.env v = pure v := by intro _; rfl)
    (hse : starEach [.GeneratorExp elt [⟨.Name x px, iter, [], 0⟩] scope gpos] X.env = (false, eval (.GeneratorExp elt [⟨.Name x px, iter, [], 0⟩] scope gpos) X.env) :: starEach [] X.env := by rfl) :
    PE X (.Call (.Name "any" p) [.GeneratorExp elt [⟨.Name x px, iter, [], 0⟩] scope gpos] [] pos) (tD cs (fAny i fi fe)) := by
  refine ⟨fun pins s σ H Q I h => ?_⟩
  obtain ⟨H0, G, env, d, w, er, e, q⟩ := h
  unfold fAny at e
  cases ef : fi env with
  | none => rw [ef] at e; cases e
  | some items =>
    rw [ef] at e
    have e1 : ((gnD i fe (env.set i .no) items).bind fun ys => (blsOf ys).bind fun bs => some (PyData.bool (bs.any id))) = some d := e
    cases eg : gnD i fe (env.set i .no) items with
    | none => rw [eg] at e1; cases e1
    | some ys =>
      rw [eg] at e1
      have e2 : ((blsOf ys).bind fun bs => some (PyData.bool (bs.any id))) = some d := e1
      cases eb : blsOf ys with
      | none => rw [eb] at e2; cases e2
      | some bs =>
        rw [eb] at e2
        cases e2
        refine wpAny_Call_Name_kw (ld_blt I hgl hm (by decide +kernel : bootBuiltins "any" = some (.builtin "any")) ?_)
        refine PyProof.Rows.callWith_builtin1 ?_ hse (by rfl)
        rw [hse]
        show wpAny _ _ (spliced ((false, eval (.GeneratorExp elt [⟨.Name x px, iter, [], 0⟩] scope gpos) X.env) :: backTo pos (starEach [] X.env))) _ _ s
        refine Calls.spliced_cons (gen_make hr TB hcode ok hN hi hg he hs I ⟨H0, G, env, items, w, er, ef, fun G1 H1 J x1 yl => ⟨x1.wd.tab Pt hPt, fun H2 hT => ?_⟩⟩)
        have xT := ext_tabbed x1.wd hPt hT
        refine ⟨items.length, BlAt fun j => bs.getD j false, fun _ H' => ∃ G', Ext cs G1 H2 G' H', gstep_of (σ := σ) x1.wd (er.ext w x1) xT yl eg fun j y G4 hy v ry => ?_, fun a s5 rdy => ?_⟩
        · have hb := blsOf_get eb hy
          rw [hb] at ry
          exact ry.bl_inv
        · refine Calls.spliced_nil ?_
          obtain ⟨g, hg5, f⟩ := rdy
          obtain ⟨St, Fi, W, hst, hfi⟩ := f [] fun S hS => absurd hS (by simp)
          refine call_anyG hg5 W (hst [] s5.heap s5.toks rfl (fun _ _ z => z) fun p hp => absurd hp (by simp)) fun s' hf => ?_
          obtain ⟨H', j, I', G', x'⟩ := hfi s' hf
          have hl : items.length = bs.length := by rw [← gnD_len eg, blsOf_len eb]
          rw [hl, range_anyD]
          exact ⟨.bl _, H', I', rfl, q G' H' _ (x1.trans (xT.trans x')) (.bl _)⟩
end
section
variable {P : Program} {w : World} {A : Around} {R : Result → Shared → Prop} {a : Addr} {n : Nat} {St : Nat → List (Addr × Obj) → Shared → Prop} {Fi : Shared → Prop}
def KAt (ks : Nat → Int) (j : Nat) (y : V) : Prop := y = .int (ks j)
theorem sum_loopG {ks : Nat → Int} {S : Addr} (W : GWk P w A.in1 a n (KAt ks) [S] St Fi) : ∀ (k j : Nat) (s : Shared) (tA : Tok) (c : Nat) (st : Int), (st = 0 ∨ st = 2) → n - j = k → j ≤ n → St j [(S, lstObj #[.int (preSum ks j) tA] c)] s →
    (∀ s' t', Fi s' → R (.ok (.ret (.int (preSum ks n) t'))) s') → codeAny (model P w) A (.builtin "sum.loop" ⟨[.ref a, .ref S, rawInt st, rawInt 0], []⟩) R s := by
  intro k
  induction k with
  | zero =>
    intro j s tA c st hst2 hk hj hst hR
    have hjn : j = n := by omega
    subst hjn
    have hS := W.at_ _ _ _ hst _ List.mem_cons_self
    refine codeAny_builtin F.entry_sum_loop ?_
    rw [Around.under_plainId F.plain_sum_loop _]
    show wpAny _ A.in1 (seqItems? (.ref S) >>= _) _ _ s
    refine wpAny_bind (wpAny_seqItems hS rfl ?_)
    show wpAny _ A.in1 (tryCatch (pyNext (.ref a)) _ >>= _) _ _ s
    refine wpAny_bind (wpAny_tryCatch (W.done _ s _ _ hst fun s' hf => ?_))
    exact wpAny_pure (hR s' tA hf)
  | succ k ih =>
    intro j s tA c st hst2 hk hj hst hR
    have hlt : j < n := by omega
    have hS := W.at_ _ _ _ hst _ List.mem_cons_self
    refine codeAny_builtin F.entry_sum_loop ?_
    rw [Around.under_plainId F.plain_sum_loop _]
    show wpAny _ A.in1 (seqItems? (.ref S) >>= _) _ _ s
    refine wpAny_bind (wpAny_seqItems hS rfl ?_)
    show wpAny _ A.in1 (tryCatch (pyNext (.ref a)) _ >>= _) _ _ s
    refine wpAny_bind (wpAny_tryCatch (W.item j _ s _ _ hlt hst fun y v s' rv hy hst' => ?_))
    have hy' : y = .int (ks j) := hy
    subst hy'
    obtain ⟨t, ev⟩ := (show ∃ t, v = Value.int (ks j) t from rv)
    subst ev
    have hS' := W.at_ _ _ _ hst' _ List.mem_cons_self
    have hS2 := Heap.get?_update_self (Obj.mapSeq fun _ => #[Value.int (preSum ks j + ks j) s'.toks]) hS' rfl
    have hS3 := Heap.get?_update_self (Obj.mapSeq fun _ => #[Value.int (preSum ks j + ks j) s'.toks]) hS2 rfl
    have nc : ∀ (xs : Array Value) (c' : Nat) (v : Option Value), (lstObj xs c').data ≠ .cell v := fun xs c' v z => by cases z
    have k1 : ∀ b u, b ≠ S → s'.heap.get? b = some u → (s'.heap.update S (Obj.mapSeq fun _ => #[Value.int (preSum ks j + ks j) s'.toks])).get? b = some u := fun b u hb e => (Heap.get?_update_other _ _ (Ne.symm hb)).trans e
    have k2 : ∀ b u, b ≠ S → s'.heap.get? b = some u → ((s'.heap.update S (Obj.mapSeq fun _ => #[Value.int (preSum ks j + ks j) s'.toks])).update S (Obj.mapSeq fun _ => #[Value.int (preSum ks j + ks j) s'.toks])).get? b = some u := fun b u hb e => (Heap.get?_update_other _ _ (Ne.symm hb)).trans (k1 b u hb e)
    have twice : wpAny (model P w) A.in1 ((holding [Value.int (ks j) t] (binaryOp .Add (.int (preSum ks j) tA) (.int (ks j) t))).attempt) (fun r s2 => r = .ok (.int (preSum ks j + ks j) s'.toks) ∧ s2 = { s' with toks := s'.toks + 1 }) (fun _ _ => False) s' :=
      wpAny_attempt (wpAny_holding (wpAny_add_int ⟨rfl, rfl⟩))
    rcases hst2 with rfl | rfl
    · show wpAny _ A.in1 (if (_ : Bool) = true then (mkInt (preSum ks j + ks j) >>= _) else _) _ _ _
      split
      · refine wpAny_bind (wpAny_mkInt ?_)
        show wpAny _ A.in1 (updateSeq S (fun _ => #[.int (preSum ks j + ks j) s'.toks]) >>= _) _ _ _
        refine wpAny_bind ?_
        exact wpAny_updateSeq hS' rfl (wpAny_pure ⟨plainId_quiet F.plain_sum_loop _, ih (j + 1) _ s'.toks _ 0 (.inl rfl) (by omega) hlt (W.put (j + 1) S _ _ s' _ (s'.toks + 1) hst' k1 hS2 (nc _ _)) hR⟩)
      · refine wpAny_bind (wpAny_rule ?_)
        refine wpAny_bind (wpAny_attempt (wpAny_holding (wpAny_add_int ?_)))
        show wpAny _ A.in1 (updateSeq S (fun _ => #[.int (preSum ks j + ks j) s'.toks]) >>= _) _ _ _
        refine wpAny_bind (wpAny_updateSeq hS' rfl ?_)
        refine wpAny_bind (wpAny_letGo ?_)
        exact wpAny_bind (wpAny_updateSeq hS2 rfl (wpAny_pure ⟨plainId_quiet F.plain_sum_loop _, ih (j + 1) _ s'.toks _ 2 (.inr rfl) (by omega) hlt (W.put (j + 1) S _ _ s' _ (s'.toks + 1) hst' k2 hS3 (nc _ _)) hR⟩))
    · show wpAny _ A.in1 ((holding [Value.int (ks j) t] (binaryOp .Add (.int (preSum ks j) tA) (.int (ks j) t))).attempt >>= _) _ _ _
      refine wpAny_bind (wpAny_attempt (wpAny_holding (wpAny_add_int ?_)))
      show wpAny _ A.in1 (updateSeq S (fun _ => #[.int (preSum ks j + ks j) s'.toks]) >>= _) _ _ _
      refine wpAny_bind (wpAny_updateSeq hS' rfl ?_)
      refine wpAny_bind (wpAny_letGo ?_)
      exact wpAny_bind (wpAny_updateSeq hS2 rfl (wpAny_pure ⟨plainId_quiet F.plain_sum_loop _, ih (j + 1) _ s'.toks _ 2 (.inr rfl) (by omega) hlt (W.put (j + 1) S _ _ s' _ (s'.toks + 1) hst' k2 hS3 (nc _ _)) hR⟩))
variable {E : Value → Shared → Prop} {s : Shared} {Q : Value → Shared → Prop}
theorem call_sumG {ks : Nat → Int} {g : Nat} (hg : s.heap.IsGen a g) (W : GWk P w A.in1 a n (KAt ks) [s.heap.objs.size] St Fi)
    (hst : ∀ t tA, St 0 [(s.heap.objs.size, lstObj #[.int 0 tA] 0)] { s with heap := s.heap.push (lstObj #[.int 0 tA] 0), toks := t }) (hQ : ∀ s' t', Fi s' → Q (.int (preSum ks n) t') s') :
    wpAny (model P w) A (call (.builtin "sum") [.ref a]) Q E s := by
  refine call_function_tree F.kind_sum F.plain_sum F.entry_sum (F.args_sum1 _) ?_
  unfold Builtin.«sum»
  simp only [List.length_cons, List.length_nil]
  rw [if_neg (by decide)]
  refine wpAny_bind (wpAny_of_eq (show Builtin.Builtins.bindParams "sum" ["start"] 0 { } = pure [none] from rfl) ?_)
  refine wpAny_bind (wpAny_pyIter_gen hg ?_)
  refine wpAny_bind (wpAny_mkInt ?_)
  refine wpAny_bind (wpAny_pure ?_)
  simp only [List.forIn_cons, List.forIn_nil]
  refine wpAny_bind (wpAny_bind (wpAny_bind (wpAny_isInstance (T := "int") (b := false) (typeIs_int _ _ _) PySem.sub_int_str ?_)))
  simp only [Bool.false_eq_true, if_false]
  refine wpAny_pure (wpAny_bind (wpAny_bind (wpAny_isInstance (T := "int") (b := false) (typeIs_int _ _ _) PySem.sub_int_bytes ?_)))
  simp only [Bool.false_eq_true, if_false]
  refine wpAny_pure (wpAny_bind (wpAny_bind (wpAny_isInstance (T := "int") (b := false) (typeIs_int _ _ _) PySem.sub_int_bytearray ?_)))
  simp only [Bool.false_eq_true, if_false]
  refine wpAny_pure (wpAny_pure ?_)
  refine wpAny_bind (wpAny_newObj_type ?_)
  exact wpAny_pure ⟨plainId_quiet F.plain_sum_loop _, sum_loopG W n 0 _ s.toks 0 0 (.inl rfl) rfl (Nat.zero_le _) (hst _ _) hQ⟩
end
section
variable {X : Cx} {cs : Cs}
def sumZ : List Int → Int
  | [] => 0
  | x :: r => x + sumZ r
theorem sumZ_eq : ∀ l : List Int, sumZ l = l.sum
  | [] => rfl
  | x :: r => by rw [sumZ, sumZ_eq r, List.sum_cons]
def fSum (i : Nat) (fi : Fs) (fe : Fe) : Fe := fun env => (fi env).bind fun items => (gnD i fe (env.set i .no) items).bind fun ys => (ksOf ys).bind fun bs => some (.int (sumZ bs))
theorem de_sum {c Pt : Addr} {elt iter : Expr} {x : Str} {i k : Nat} {px p pos gpos : Pos} {scope : Scope} {fi : Fs} {fe : Fe}
    (hr : Room (k + 1) X.A) (TB : GxR.TabB X.base X.mg c Pt) (hPt : Tab cs Pt) (hcode : X.env.code = .ref c) (ok : GOk X.N X.env.scope scope x i) (hN : X.N.Nodup) (hm : X.mg "sum" = none) (hi : PI X (.Name x px) iter (tDI cs fi))
    (hg : ∀ (A' : Around) (s : Shared) (H : Hp) (C bi : Addr) (cl : List (Str × Addr)) (code : Value) (fp : List Addr) (pn : List (Addr × Obj)), Room k A' → PG (genCx X A' s H (genEnv scope cl C code bi X.env) fp pn) (.Name x px) (gName i))
    (he : ∀ (A' : Around) (s : Shared) (H : Hp) (C bi : Addr) (cl : List (Str × Addr)) (code : Value) (fp : List Addr) (pn : List (Addr × Obj)), Room k A' → PE (genCx X A' s H (genEnv scope cl C code bi X.env) fp pn) elt (tD cs fe))
    (hgl : Gl X "sum" := by rfl) (hs : ∀ v, genFold iter X.env v = pure v := by intro _; rfl)
    (hse : starEach [.GeneratorExp elt [⟨.Name x px, iter, [], 0⟩] scope gpos] X.env = (false, eval (.GeneratorExp elt [⟨.Name x px, iter, [], 0⟩] scope gpos) X.env) :: starEach [] X.env := by rfl) :
    PE X (.Call (.Name "sum" p) [.GeneratorExp elt [⟨.Name x px, iter, [], 0⟩] scope gpos] [] pos) (tD cs (fSum i fi fe)) := by
  refine ⟨fun pins s σ H Q I h => ?_⟩
  obtain ⟨H0, G, env, d, w, er, e, q⟩ := h
  unfold fSum at e
  cases ef : fi env with
  | none => rw [ef] at e; cases e
  | some items =>
    rw [ef] at e
    have e1 : ((gnD i fe (env.set i .no) items).bind fun ys => (ksOf ys).bind fun bs => some (PyData.int (sumZ bs))) = some d := e
    cases eg : gnD i fe (env.set i .no) items with
    | none => rw [eg] at e1; cases e1
    | some ys =>
      rw [eg] at e1
      have e2 : ((ksOf ys).bind fun bs => some (PyData.int (sumZ bs))) = some d := e1
      cases eb : ksOf ys with
      | none => rw [eb] at e2; cases e2
      | some bs =>
        rw [eb] at e2
        cases e2
        refine wpAny_Call_Name_kw (ld_blt I hgl hm (by decide +kernel : bootBuiltins "sum" = some (.builtin "sum")) ?_)
        refine PyProof.Rows.callWith_builtin1 ?_ hse (by rfl)
        rw [hse]
        show wpAny _ _ (spliced ((false, eval (.GeneratorExp elt [⟨.Name x px, iter, [], 0⟩] scope gpos) X.env) :: backTo pos (starEach [] X.env))) _ _ s
        refine Calls.spliced_cons (gen_make hr TB hcode ok hN hi hg he hs I ⟨H0, G, env, items, w, er, ef, fun G1 H1 J x1 yl => ⟨x1.wd.tab Pt hPt, fun H2 hT => ?_⟩⟩)
        have xT := ext_tabbed x1.wd hPt hT
        refine ⟨items.length, KAt fun j => bs.getD j 0, fun _ H' => ∃ G', Ext cs G1 H2 G' H', gstep_of (σ := σ) x1.wd (er.ext w x1) xT yl eg fun j y G4 hy v ry => ?_, fun a s5 rdy => ?_⟩
        · have hb := ksOf_get eb hy
          rw [hb] at ry
          exact ry.int_inv
        · refine Calls.spliced_nil ?_
          obtain ⟨g, hg5, f⟩ := rdy
          obtain ⟨St, Fi, W, hst, hfi⟩ := f [s5.heap.objs.size] fun S hS => by rw [List.mem_singleton.mp hS]; exact Nat.le_refl _
          refine call_sumG hg5 W (fun t tA => hst _ _ t rfl (fun b o z => Heap.get?_push_of_some _ z) fun p hp => ?_) fun s' t' hf => ?_
          · rw [List.mem_singleton.mp hp]
            exact ⟨Heap.get?_push_size _ rfl, fun v z => by cases z⟩
          · obtain ⟨H', j, I', G', x'⟩ := hfi s' hf
            have hl : items.length = bs.length := by rw [← gnD_len eg, ksOf_len eb]
            have e9 := preSum_getD bs bs.length
            rw [List.take_length] at e9
            rw [hl, e9, ← sumZ_eq]
            exact ⟨.int _, H', I', ⟨t', rfl⟩, q G' H' _ (x1.trans (xT.trans x')) (.int _)⟩
end
end DL

/-! Dl9: sorted(set(l)) of ints; own dicts; own lists read and written. -/
namespace DL
open PySem PySem.Spec PyProof.Rows L2

/-! ### set(l) of a list of ints -/
abbrev set0 (w : World) : Obj := { cls := .type "set", dict := none, data := .set #[] 0 (.fresh 0 0 (!w.params.followText "set-order")) }
section
variable {P : Program} {w : World} {A : Around} {E : Value → Shared → Prop} {s : Shared}
set_option maxHeartbeats 4000000 in
theorem call_setL {l : Addr} {xs : Array Value} (ns : List Int) {Q : Value → Shared → Prop} (hh : A.handled = none) (hl : s.heap.IsList l xs) (hx : IntsAre xs.toList ns) (hb : ns.length + 1 < scanBound)
    (fin : ∀ (g : Heap) (k c : Nat), SetR w g s.heap.objs.size (fun j => decide (j ∈ ns)) c → c ≤ ns.length → (∀ b o, s.heap.get? b = some o → g.get? b = some o) → Q (.ref s.heap.objs.size) { s with heap := g, toks := k }) :
    wpAny (model P w) A (call (.type "set") [.ref l]) Q E s := by
  have hz : xs.size = ns.length := by
    have q := IntsAre.length hx
    rwa [Array.length_toList] at q
  obtain ⟨c0, t0, mro0⟩ := F.called_set.mro
  have made0 := F.called_set.made
  have sub0 := F.called_set.sub
  refine wpAny_call (codeAny_of_tree ?_)
  show wpAny _ _ (callAny (.type "set") _) _ _ _
  refine wpAny_pure ⟨Code.quiet_builtin _ (by decide +kernel), codeAny_builtin F.entry_type_call ?_⟩
  rw [Around.under_plain (weight_type_call_type "set" [.ref l] []) rfl]
  have nt0 := F.called_set.notType
  have cc0 := F.called_set.canCreate
  have tc0 := F.typeCall_set_1 (.ref l)
  repeat (any_goals (first | assumption | wp_step))
  refine codeAny_mono (code_set_led1 (.ref l) (E := E) (Q₁ := fun v t => v = .ref s.heap.objs.size ∧ t = { s with heap := s.heap.push (set0 w) }) ⟨rfl, rfl⟩) fun r t hr => ?_
  cases r with
  | error e => exact hr
  | ok fl =>
    cases fl with
    | ret v =>
      obtain ⟨rfl, rfl⟩ := hr
      have hS : (s.heap.push (set0 w)).get? s.heap.objs.size = some (set0 w) := Heap.get?_push_size _ rfl
      have hT : Shared.TypeIs { s with heap := s.heap.push (set0 w) } (.ref s.heap.objs.size) "set" := ⟨_, hS, rfl⟩
      have il := F.called_set.init.lookup
      have ib := F.called_set.init.bind (.ref s.heap.objs.size)
      repeat (any_goals (first | assumption | wp_step))
      refine codeAny_mono (codeAny_call_builtin (R := wants (fun r u => r = .none ∧ ∃ g k c, u = { s with heap := g, toks := k } ∧ SetR w g s.heap.objs.size (fun j => decide (j ∈ ns)) c ∧ c ≤ ns.length ∧
          (∀ b o, s.heap.get? b = some o → g.get? b = some o)) E) F.called_set.init.plain F.entry_set_init (check_set_init_1 hT ?_)) fun r u hu => ?_
      · obtain ⟨⟨ol1, ol2, ol3, ol4⟩, hol, hcl, nl, hdl⟩ := hl
        simp only at hcl hdl
        subst hcl; subst hdl
        have hsls := F.sub_list_set
        have hslf := F.sub_list_frozenset
        have hne : (Value.type "list" == Value.type "dict") = false := by decide
        have up : (s.heap.push (set0 w)).get? l = some { cls := .type "list", dict := ol2, data := .seq xs nl, slots := ol4 } := Heap.get?_push_of_some _ hol
        have isl : (s.heap.push (set0 w)).IsList l xs := ⟨_, up, rfl, nl, rfl⟩
        unfold Builtin.«set.__init__» noKeywords Builtin.Frozenset.updateFrom
        generalize hPI : pyIter = PI
        wp_walk
        subst hPI
        refine wpAny_pyIter_list isl ?_
        refine wpAny_bind (wpAny_runValue ?_)
        have ll : l < s.heap.objs.size := Heap.lt_size hol
        have h3 : A.in1.in1.in1.handled = none := by simp [hh]
        have zz : (s.heap.push (set0 w)).objs.size = s.heap.objs.size + 1 := Heap.size_push ..
        have nI : l ≠ (s.heap.push (set0 w)).objs.size := by
          rw [zz]; exact Nat.ne_of_lt (Nat.lt_succ_of_lt ll)
        have nS : s.heap.objs.size ∉ [(s.heap.push (set0 w)).objs.size, l] := fun hm => by
          rcases List.mem_cons.mp hm with e | e
          · rw [zz] at e; exact absurd e (Nat.ne_of_lt (Nat.lt_succ_self _))
          · exact absurd (List.mem_singleton.mp e) (Nat.ne_of_gt ll)
        have val : ∀ (i : Nat) (v : Value), xs[i]? = some v → ∃ k t, ns[i]? = some k ∧ v = .int k t := fun i v hv => by
          have hi : i < ns.length := by rw [← hz]; exact (Array.getElem?_eq_some_iff.mp hv).1
          obtain ⟨t, e⟩ := PyProof.Rows.IntsAre.int_at hx i v (by rw [Array.getElem?_toList]; exact hv)
          have e2 : ns.getD i 0 = ns[i] := by rw [List.getD_eq_getElem?_getD, List.getElem?_eq_getElem hi]; rfl
          exact ⟨ns[i], t, List.getElem?_eq_getElem hi, by rw [e, e2]⟩
        have g0 : ((s.heap.push (set0 w)).push { cls := .type "list_iterator", data := .fields #[.ref l, .int 0 0] }).get? s.heap.objs.size = some (set0 w) := Heap.get?_push_of_some _ hS
        refine set_update_ints ((Walks.list h3 _ l nI xs).toS) s.heap.objs.size nS ns hz hb val (xs.size - 0) 0 _ (by omega) (Nat.zero_le _) ⟨⟨_, Heap.get?_push_size _ rfl, rfl, rfl⟩, isl.push _⟩ ⟨0, Nat.le_refl 0, setR_new_at g0⟩ fun u c' hm hc' hS' => ?_
        obtain ⟨g, g2, d2, k2, o2⟩ := u
        obtain rfl : g2 = s.gens := hm.gens
        obtain rfl : d2 = s.drawn := hm.drawn
        obtain rfl : o2 = s.os := hm.os
        show wpAny _ _ _ _ _ _
        refine wpAny_pure ?_
        show wpAny _ _ (ret Value.none) _ _ _
        rw [hz] at hc'
        refine wpAny_pure ⟨rfl, g, k2, c', rfl, hS', hc', fun b o e => ?_⟩
        have b0 : b < s.heap.objs.size := Heap.lt_size e
        refine hm.heap b o (fun hb' => ?_) (Heap.get?_push_of_some _ (Heap.get?_push_of_some _ e))
        rcases List.mem_cons.mp hb' with q | q
        · exact absurd q (Nat.ne_of_lt b0)
        · have q' := List.mem_singleton.mp q
          rw [zz] at q'
          exact absurd q' (Nat.ne_of_lt (Nat.lt_succ_of_lt b0))
      · cases r with
        | error e => exact hu
        | ok fl2 =>
          cases fl2 with
          | ret r =>
            obtain ⟨rfl, g, k, c', rfl, hS', hc', hk'⟩ := hu
            repeat (any_goals (first | assumption | wp_step))
            exact fin _ _ _ hS' hc' hk'
          | _ => exact hu.elim
    | _ => exact hr.elim
end
end DL

/-! Dl10: sorted(set(l)); own dicts; own lists. -/
namespace DL
open PySem PySem.Spec PyProof.Rows L2

/-! ### sorted(set(e)) of ints -/
def insU (x : Int) : List Int → List Int
  | [] => [x]
  | y :: ys => if x < y then x :: y :: ys else if x = y then y :: ys else y :: insU x ys
def usort : List Int → List Int
  | [] => []
  | x :: r => insU x (usort r)
def intsOf : List PyData → Option (List Int)
  | [] => some []
  | .int b :: ds => (intsOf ds).bind fun r => some (b :: r)
  | _ => none
theorem intsOf_map : ∀ {ds : List PyData} {ns : List Int}, intsOf ds = some ns → ds = ns.map .int
  | [], ns, h => by cases h; rfl
  | .int b :: ds, ns, h => by
    have h1 : ((intsOf ds).bind fun r => some (b :: r)) = some ns := h
    cases e : intsOf ds with
    | none => rw [e] at h1; cases h1
    | some r => rw [e] at h1; cases h1; rw [intsOf_map e, List.map_cons]
  | .none :: _, _, h => by cases h
  | .bool _ :: _, _, h => by cases h
  | .str _ :: _, _, h => by cases h
  | .list _ :: _, _, h => by cases h
  | .tuple _ :: _, _, h => by cases h
  | .dict _ :: _, _, h => by cases h
theorem insU_mem (x k : Int) : ∀ l : List Int, k ∈ insU x l ↔ k = x ∨ k ∈ l
  | [] => by simp [insU]
  | y :: ys => by
    unfold insU
    by_cases h1 : x < y
    · rw [if_pos h1]; simp
    · rw [if_neg h1]
      by_cases h2 : x = y
      · rw [if_pos h2, h2]; simp
      · rw [if_neg h2, List.mem_cons, insU_mem x k ys, List.mem_cons]
        constructor
        · rintro (e | e | e)
          · exact .inr (.inl e)
          · exact .inl e
          · exact .inr (.inr e)
        · rintro (e | e | e)
          · exact .inr (.inl e)
          · exact .inl e
          · exact .inr (.inr e)
theorem insU_sorted (x : Int) : ∀ l : List Int, l.Pairwise (· < ·) → (insU x l).Pairwise (· < ·)
  | [], _ => List.pairwise_singleton _ _
  | y :: ys, h => by
    obtain ⟨h1, h2⟩ := List.pairwise_cons.mp h
    unfold insU
    by_cases c1 : x < y
    · rw [if_pos c1]
      refine List.pairwise_cons.mpr ⟨fun z hz => ?_, h⟩
      rcases List.mem_cons.mp hz with e | e
      · omega
      · have := h1 z e
        omega
    · rw [if_neg c1]
      by_cases c2 : x = y
      · rw [if_pos c2]; exact h
      · rw [if_neg c2]
        refine List.pairwise_cons.mpr ⟨fun z hz => ?_, insU_sorted x ys h2⟩
        rcases (insU_mem x z ys).mp hz with e | e
        · omega
        · exact h1 z e
theorem usort_mem (k : Int) : ∀ l : List Int, k ∈ usort l ↔ k ∈ l
  | [] => by simp [usort]
  | x :: r => by
    show k ∈ insU x (usort r) ↔ _
    rw [insU_mem, usort_mem k r, List.mem_cons]
theorem usort_sorted : ∀ l : List Int, (usort l).Pairwise (· < ·)
  | [] => .nil
  | x :: r => insU_sorted x _ (usort_sorted r)
theorem strict_ext : ∀ {l k : List Int}, l.Pairwise (· < ·) → k.Pairwise (· < ·) → (∀ x, x ∈ l ↔ x ∈ k) → l = k
  | [], [], _, _, _ => rfl
  | [], y :: _, _, _, h => by
    have := (h y).mpr List.mem_cons_self
    cases this
  | x :: _, [], _, _, h => by
    have := (h x).mp List.mem_cons_self
    cases this
  | x :: r, y :: s, hl, hk, h => by
    obtain ⟨l1, l2⟩ := List.pairwise_cons.mp hl
    obtain ⟨k1, k2⟩ := List.pairwise_cons.mp hk
    have exy : x = y := by
      rcases List.mem_cons.mp ((h x).mp List.mem_cons_self) with e | e
      · exact e
      · rcases List.mem_cons.mp ((h y).mpr List.mem_cons_self) with e2 | e2
        · exact e2.symm
        · have a1 := k1 x e
          have a2 := l1 y e2
          omega
    subst exy
    rw [strict_ext l2 k2 fun z => ?_]
    constructor
    · intro hz
      rcases List.mem_cons.mp ((h z).mp (List.mem_cons_of_mem _ hz)) with e | e
      · have := l1 z hz; omega
      · exact e
    · intro hz
      rcases List.mem_cons.mp ((h z).mpr (List.mem_cons_of_mem _ hz)) with e | e
      · have := k1 z hz; omega
      · exact e
def gSS : PyData → Option PyData
  | .list xs => (intsOf xs).bind fun ns => if ns.length < 60 then some (.list ((usort ns).map .int)) else none
  | _ => none
section
variable {X : Cx} {cs : Cs} {pos pos2 p p2 : Pos} {e : Expr} {fe : Fe}
def rSetI (K : PySem.W.Frag) (w : World) : List V → Hp → VK → Prop := fun vs H Q => ∃ (l : Addr) (ns : List Int), vs = [.ref l] ∧ SqL K H l (ns.map V.int) ∧ ns.length < 60 ∧ ∀ (q : Addr) (c : Nat), H q = none → c ≤ ns.length → Q (.ref q) (upd H q (SetO w q (fun j => decide (j ∈ ns)) c))
theorem cr_setI (hc : X.calm = true) : CallR X (.type "set") (rSetI X.K X.w) := by
  intro pins s σ H vs us Q I r h
  obtain ⟨l, ns, rfl, hq, hl, q⟩ := h
  obtain ⟨u, rfl, ru⟩ := Vals1 r
  obtain rfl : u = Value.ref l := ru
  obtain ⟨its, rv, pp, hz⟩ := I.list hq
  have hi : IntsAre its.toArray.toList ns := by
    have := ints_of_vals rv
    simpa using this
  refine call_setL ns (I.ok.hd hc) pp.isList hi (by have : (64 : Nat) ≤ scanBound := by decide
                                                    omega) fun g k c R hcl hk => ?_
  exact ⟨.ref _, _, I.laid (t' := k) hk (Nat.le_refl _) (setO_new R), rfl, q _ c (I.hok.fresh (Nat.le_refl _)) hcl⟩
theorem de_sortedSet (hm : X.mg "sorted" = none) (hms : X.mg "set" = none) (he : PE X e (tD cs fe)) (hg : Gl X "sorted" := by rfl) (hgs : Gl X "set" := by rfl) (hc : X.calm = true := by rfl)
    (h1 : starEach (e :: []) X.env = (false, eval e X.env) :: starEach [] X.env := by rfl)
    (h2 : starEach (.Call (.Name "set" p2) [e] [] pos2 :: []) X.env = (false, eval (.Call (.Name "set" p2) [e] [] pos2) X.env) :: starEach [] X.env := by rfl) :
    PE X (.Call (.Name "sorted" p) [.Call (.Name "set" p2) [e] [] pos2] [] pos) (tD cs (f1 gSS fe)) :=
  PE.imp (pe_callB (cr_sortedSet hc) hg hm boot_sorted (pa_cons (pe_callTy (cr_setI hc) hgs hms (by decide +kernel) (pa_cons he pa_nil h1) (by decide) (by decide) h1 (by rfl)) pa_nil h2) (by decide) (by decide) h2 (by rfl)) fun σ H Q h =>
    tD_one (k := fun x H1 Q => rSetI X.K X.w [x] H1 fun y H2 => rSortedSet X.w [y] H2 Q) (fun G H x d c Q w rx ec k => by
    cases d with
    | list xs =>
      have e1 : ((intsOf xs).bind fun ns => if ns.length < 60 then some (PyData.list ((usort ns).map .int)) else none) = some c := ec
      cases ei : intsOf xs with
      | none => rw [ei] at e1; cases e1
      | some ns =>
        rw [ei] at e1
        obtain ⟨hl, e2⟩ := if_some (show (if ns.length < 60 then some (PyData.list ((usort ns).map .int)) else none) = some c from e1)
        subst e2
        obtain ⟨a, vs, ea, ga, rv⟩ := rx.list_inv
        rw [intsOf_map ei] at rv
        have ev := RpAll.ints_inv rv
        subst ev ea
        refine ⟨a, ns, rfl, SqL.of (w.sub _ _ ga), hl, fun q m hq hm => ?_⟩
        have x1 := Ext.laidOwn (o := SetO X.w q (fun j => decide (j ∈ ns)) m) w hq
        refine ⟨q, _, m, rfl, upd_same, by omega, fun ks r hp hmem hlen hr => ?_⟩
        have ek : ks = usort ns := strict_ext hp (usort_sorted ns) fun z => by rw [hmem z, usort_mem]; simp
        subst ek
        have x2 := Ext.laid (o := .lst ((usort ns).map V.int)) x1.wd hr
        exact k _ _ _ (x1.trans x2) (.lst upd_same (RpAll.ints _))
    | _ => cases ec) h
end

/-! ### a new thing of one's own at a slot -/
section
variable {cs : Cs} {G0 H0 G H : Hp} {σ : L2.St} {env : SE} {i : Nat}
theorem env_put {p : Addr} {s : Slot} {G' H' : Hp} (x : Ext cs G0 H0 G H) (er : EnvR H0 G H σ env) (x1 : Ext cs G H G' H') (hp : H p = none) (hs : SlotR H0 G' H' (some (some (V.ref p))) s) :
    EnvR H0 G' H' (σ.set i (some (V.ref p))) (env.set i s) := by
  have er1 := er.ext x.wd x1
  have old : ∀ (j : Nat) (s : Slot) (a : Addr), env[j]? = some s → isOwn s = true → σ[j]? = some (some (V.ref a)) → a ≠ p := fun j s a e o f w => by
    subst w
    have z := er.at_ j s e
    cases s with
    | own zs => obtain ⟨b, us, z1, _, _, z4, _⟩ := z; rw [f] at z1; cases z1; rw [hp] at z4; cases z4
    | ownD zs => obtain ⟨b, us, z1, _, _, z4, _⟩ := z; rw [f] at z1; cases z1; rw [hp] at z4; cases z4
    | _ => cases o
  refine ⟨by rw [List.length_set, List.length_set]; exact er.len, fun j t e => ?_, fun j k t u a ne e1 o1 e2 o2 f1 f2 => ?_⟩
  · by_cases hj : i = j
    · subst hj
      have hi : i < env.length := by
        have := (List.getElem?_eq_some_iff.mp e).1
        rwa [List.length_set] at this
      rw [List.getElem?_set_self hi] at e
      cases e
      rw [List.getElem?_set_self (by rw [er.len]; exact hi)]
      exact hs
    · rw [List.getElem?_set_ne hj] at e ⊢
      exact er1.at_ j t e
  · by_cases hj : i = j
    · have hk : i ≠ k := fun z => ne (hj.symm.trans z)
      subst hj
      have hi : i < env.length := by
        have := (List.getElem?_eq_some_iff.mp e1).1
        rwa [List.length_set] at this
      rw [List.getElem?_set_self (by rw [er.len]; exact hi)] at f1
      cases f1
      rw [List.getElem?_set_ne hk] at e2 f2
      exact old k u p e2 o2 f2 rfl
    · rw [List.getElem?_set_ne hj] at e1 f1
      by_cases hk : i = k
      · subst hk
        have hi : i < env.length := by
          have := (List.getElem?_eq_some_iff.mp e2).1
          rwa [List.length_set] at this
        rw [List.getElem?_set_self (by rw [er.len]; exact hi)] at f2
        cases f2
        exact old j t p e1 o1 f1 rfl
      · rw [List.getElem?_set_ne hk] at e2 f2
        exact er.dis j k t u a ne e1 o1 e2 o2 f1 f2
theorem fresh0 {p : Addr} (x : Ext cs G0 H0 G H) (hp : H p = none) : H0 p = none := by
  cases z : H0 p with
  | none => rfl
  | some u => rw [x.keep _ _ z (x.wd.notTab_none hp)] at hp; cases hp
/-- an own thing changes -/
theorem env_chg {s t : Slot} {o o' : HO} {a : Addr} (x : Ext cs G0 H0 G H) (er : EnvR H0 G H σ env) (q : env[i]? = some s) (qo : isOwn s = true) (e1 : σ[i]? = some (some (V.ref a))) (h0 : H0 a = none) (g : G a = none) (h : H a = some o) (ho : ∀ ps, o ≠ .tbl ps)
    (ht : SlotR H0 G (upd H a o') (some (some (V.ref a))) t) (to : isOwn t = true) :
    Ext cs G0 H0 G (upd H a o') ∧ EnvR H0 G (upd H a o') σ (env.set i t) := by
  have nt : ¬ Tab cs a := x.wd.notTab_of h ho
  have hi : i < env.length := (List.getElem?_eq_some_iff.mp q).1
  refine ⟨⟨⟨fun b o e => ?_, fun b t => ?_, x.wd.out⟩, fun b o e t => ?_, x.old, x.new⟩, ⟨by rw [List.length_set]; exact er.len, fun j s' e => ?_, fun j k s' t' b ne e1' o1 e2' o2 f1 f2 => ?_⟩⟩
  · have hb : b ≠ a := fun z => by rw [z, g] at e; cases e
    rw [upd_ne hb]; exact x.wd.sub _ _ e
  · have hb : b ≠ a := fun z => nt (z ▸ t)
    obtain ⟨ps, e2, q2⟩ := x.wd.tab b t
    exact ⟨ps, by rw [upd_ne hb]; exact e2, q2⟩
  · have hb : b ≠ a := fun z => by rw [z, h0] at e; cases e
    rw [upd_ne hb]; exact x.keep _ _ e t
  · by_cases hj : i = j
    · subst hj
      rw [List.getElem?_set_self hi] at e
      cases e
      rw [e1]
      exact ht
    · rw [List.getElem?_set_ne hj] at e
      have z := er.at_ j s' e
      cases s' with
      | no => trivial
      | dat d => exact z
      | own zs =>
        obtain ⟨b, us, z1, z2, z3, z4, z5⟩ := z
        have hb : b ≠ a := fun w => er.dis i j _ _ a hj q qo e rfl e1 (by rw [z1, w])
        exact ⟨b, us, z1, z2, z3, by rw [upd_ne hb]; exact z4, z5⟩
      | ownD zs =>
        obtain ⟨b, us, z1, z2, z3, z4, z5⟩ := z
        have hb : b ≠ a := fun w => er.dis i j _ _ a hj q qo e rfl e1 (by rw [z1, w])
        exact ⟨b, us, z1, z2, z3, by rw [upd_ne hb]; exact z4, z5⟩
  · have up : ∀ (l : Nat) (r : Slot), (env.set i t)[l]? = some r → isOwn r = true → ∃ s', env[l]? = some s' ∧ isOwn s' = true := fun l r e o => by
      by_cases hl : i = l
      · subst hl; exact ⟨_, q, qo⟩
      · rw [List.getElem?_set_ne hl] at e; exact ⟨r, e, o⟩
    obtain ⟨s1, s2, s3⟩ := up j s' e1' o1
    obtain ⟨t1, t2, t3⟩ := up k t' e2' o2
    exact er.dis j k s1 t1 b ne s2 s3 t2 t3 f1 f2
end

/-! ### statements -/
section
variable {X : Cx} {cs : Cs} {pos : Pos} {e : Expr} {fe fk fv : Fe} {fl : Fs}
/-- name = a new list of one's own -/
def bSetO (i : Nat) (fl : Fs) : Fb := fun env => (fl env).bind fun xs => some (.nx (env.set i (.own xs)))
theorem ds_setO (i : Nat) {x : Str} {pos' : Pos} (he : PE X e (tDO cs fl)) (hN : X.N.Nodup) (hi : X.N[i]? = some x := by rfl) (hx : Loc X.env.scope x := by first | exact Or.inl rfl | exact Or.inr rfl) (hs : swapsWith e (some (.Name x pos')) pos.line X.env = pure false := by rfl) (hf : X.fn x = true ∨ X.env.scope.names.lookup x = some .local := by first | exact .inl rfl | exact .inr rfl) :
    PS X (.Assign [.Name x pos'] e pos) (tDS cs (bSetO i fl)) := PS.imp (ps_set hN hi hx he hs hf) fun D σ H h => by
  obtain ⟨G0, H0, G, env, r, x, er, e, q⟩ := h
  unfold bSetO at e
  cases ef : fl env with
  | none => rw [ef] at e; cases e
  | some xs =>
    rw [ef] at e
    cases e
    refine ⟨H0, G, env, xs, x.wd, er, ef, fun G' H' a ws x' h0 g h rv => ?_⟩
    exact q G' H' _ (x.trans x') x'.old (env_put x er x' h0 ⟨a, ws, rfl, fresh0 x h0, g, h, rv⟩)
/-- return of a new list of one's own -/
def bRetO (fl : Fs) : Fb := fun env => (fl env).bind fun xs => some (.rt (.own xs))
theorem ds_retO (he : PE X e (tDO cs fl)) : PS X (.Return (some e) pos) (tDS cs (bRetO fl)) := PS.imp (ps_ret he) fun D σ H h => by
  obtain ⟨G0, H0, G, env, r, x, er, e, q⟩ := h
  unfold bRetO at e
  cases ef : fl env with
  | none => rw [ef] at e; cases e
  | some xs =>
    rw [ef] at e
    cases e
    exact ⟨H0, G, env, xs, x.wd, er, ef, fun G' H' a ws x' h0 g h rv => q G' H' _ (x.trans x') ⟨a, ws, rfl, fresh0 x h0, g, h, rv⟩⟩
/-- a call whose result is a new list of one's own -/
def gNO (n : Nat) (m : List PyData → Option (List PyData)) (fs : Fs) : Fs := fun env => (fs env).bind fun ds => if ds.length = n then m ds else none
theorem de_callO {p : Pos} {es : List Expr} {fs : Fs} {x : Str} {f : Addr} {fd : FuncData} {ps : List Str} {m : List PyData → Option (List PyData)} {k n : Nat} (F : FnOk X.prog X.w X.K X.mg X.base CX0 k f fd ps (spO cs m n)) (hr : Room k X.A) (hm : X.mg x = some (.ref f)) (hk : PySem.W.keepIn X.K (.ref f) = true) (hb : Binds X.K fd ps []) (ha : PA X (e :: es) (tDA cs fs)) (hg : Gl X x := by rfl)
    (hdb : (x == ("__debug__" : Str)) = false := by decide) (he : starEach (e :: es) X.env = (false, eval e X.env) :: starEach es X.env := by rfl) (hpl : (backTo pos (starEach es X.env)).any (·.1) = false := by rfl) :
    PE X (.Call (.Name x p) (e :: es) [] pos) (tDO cs (gNO n m fs)) := PE.imp (pe_call F hr hg hm hk hb .nil pass0 ha hdb he hpl) fun σ H Q h => by
  obtain ⟨H0, G, env, xs, w, er, ee, q⟩ := h
  unfold gNO at ee
  cases ef : fs env with
  | none => rw [ef] at ee; cases ee
  | some ds =>
    rw [ef] at ee
    have e1 : (if ds.length = n then m ds else none) = some xs := ee
    by_cases hl : ds.length = n
    · rw [if_pos hl] at e1
      refine ⟨H0, G, env, ds, w, er, ef, fun G1 H1 vs x1 rv => ?_⟩
      show spO cs m n (vs ++ []) H1 Q E0
      rw [List.append_nil]
      refine ⟨by rw [rv.length]; exact hl, G1, ds, xs, x1.wd, rv, e1, fun G' H' a ws x2 h0 g h r2 => q G' H' a ws (x1.trans x2) ?_ g h r2⟩
      cases z : H a with
      | none => rfl
      | some u => rw [x1.keep _ _ z (x1.wd.notTab_none h0)] at h0; cases h0
    · rw [if_neg hl] at e1
      cases e1
/-- x[k] = e, x an own list -/
def bPutO (i : Nat) (fk fv : Fe) : Fb := fun env => (fv env).bind fun d => match env[i]? with
  | some (.own xs) => (fk env).bind fun k => match k with
    | .int z => (ixN xs.length z).bind fun j => some (.nx (env.set i (.own (xs.set j d))))
    | _ => none
  | _ => none
theorem ds_putO (i : Nat) {x : Str} {px tpos : Pos} {k : Expr} (hk : PE X k (tD cs fk)) (he : PE X e (tD cs fv)) (hi : X.N[i]? = some x := by rfl) (hv : Vis X.env.scope x := by first | exact Or.inl rfl | exact Or.inr (Or.inl rfl) | exact Or.inr (Or.inr rfl)) (hd : (x == ("__debug__" : Str)) = false := by decide) (hcd : (x == ("__classdict__" : Str)) = false := by decide)
    (hs : swapsWithSole [.Subscript (.Name x px) k tpos] e pos.line X.env = pure false := by rfl) (hw : swappedStores [.Subscript (.Name x px) k tpos] e X.env = pure none := by rfl)
    (h1 : (assignEach [.Subscript (.Name x px) k tpos] X.env).map (·.2) = [assign (.Subscript (.Name x px) k tpos) X.env] := by rfl)
    (hasg : ∀ v, assign (.Subscript (.Name x px) k tpos) X.env v = (do
      let ov ← holding [v] (eval (.Name x px) X.env)
      let iv ← holding [v, ov] (eval k X.env)
      standAt tpos
      holding [v, ov, iv] (setItem ov iv v)
      release [v, ov, iv] []) := by intro _; rfl) :
    PS X (.Assign [.Subscript (.Name x px) k tpos] e pos) (tDS cs (bPutO i fk fv)) := PS.imp (ps_asg he (pg_sub (pe_var hi hv hd hcd) hk set_list hasg) hs hw h1) fun D σ H h => by
  obtain ⟨G0, H0, G, env, r, x, er, ee, q⟩ := h
  unfold bPutO at ee
  cases ev : fv env with
  | none => rw [ev] at ee; cases ee
  | some d =>
    rw [ev] at ee
    have e1 : (match env[i]? with
      | some (.own xs) => (fk env).bind fun k => match k with
        | .int z => (ixN xs.length z).bind fun j => some (Fl.nx (env.set i (.own (xs.set j d))))
        | _ => none
      | _ => none) = some r := ee
    cases ei : env[i]? with
    | none => rw [ei] at e1; cases e1
    | some s =>
      rw [ei] at e1
      cases s with
      | own xs =>
        have e2 : ((fk env).bind fun k => match k with
          | .int z => (ixN xs.length z).bind fun j => some (Fl.nx (env.set i (.own (xs.set j d))))
          | _ => none) = some r := e1
        cases ek : fk env with
        | none => rw [ek] at e2; cases e2
        | some kd =>
          rw [ek] at e2
          cases kd with
          | int z =>
            have e3 : ((ixN xs.length z).bind fun j => some (Fl.nx (env.set i (.own (xs.set j d))))) = some r := e2
            cases ej : ixN xs.length z with
            | none => rw [ej] at e3; cases e3
            | some j =>
              rw [ej] at e3
              cases e3
              refine ⟨H0, G, env, d, x.wd, er, ev, fun G1 H1 v x1 rv => ?_⟩
              have er1 := er.ext x.wd x1
              obtain ⟨a, vs, s1, h0, g, h, rr⟩ := er1.at_ i _ ei
              refine ⟨.ref a, s1, ?_⟩
              refine ⟨H0, G1, env, .int z, x1.wd, er1, ek, fun G2 H2 kv x2 rk => ?_⟩
              have er2 := er1.ext x1.wd x2
              obtain ⟨a', vs', s1', h0', g', h', rr'⟩ := er2.at_ i _ ei
              rw [s1] at s1'
              cases s1'
              have hset := (rr'.set (rv.mono x2.old) j)
              obtain ⟨x3, er3⟩ := env_own (i := i) (ws := vs'.set j v) (ys := xs.set j d) ((x.trans x1).trans x2) er2 ei s1 h0' g' h' hset
              exact ⟨a, vs', z, j, rfl, rk.int_inv, h', by rw [rr'.length]; exact ej, q _ _ _ x3 (x1.old.trans x2.old) er3⟩
          | _ => cases e2
      | _ => cases e1
/-! own dicts -/
def bNewD (i : Nat) : Fb := fun env => some (.nx (env.set i (.ownD [])))
theorem ds_newD (i : Nat) {x : Str} {pos' p2 : Pos} (hN : X.N.Nodup) (hi : X.N[i]? = some x := by rfl) (hx : Loc X.env.scope x := by first | exact Or.inl rfl | exact Or.inr rfl) (hs : swapsWith (.Dict [] [] p2) (some (.Name x pos')) pos.line X.env = pure false := by rfl) (hf : X.fn x = true ∨ X.env.scope.names.lookup x = some .local := by first | exact .inl rfl | exact .inr rfl) :
    PS X (.Assign [.Name x pos'] (.Dict [] [] p2) pos) (tDS cs (bNewD i)) := PS.imp (ps_set hN hi hx pe_dnewK hs hf) fun D σ H h => by
  obtain ⟨G0, H0, G, env, r, x, er, e, q⟩ := h
  cases e
  intro p hp
  have x1 := Ext.laidOwn (o := .dK []) x.wd hp
  exact q _ _ _ (x.trans x1) (Gle.refl _) (env_put x er x1 hp ⟨p, [], rfl, fresh0 x hp, x.wd.free hp, upd_same, .nil⟩)
def putZ (kvs : List (Int × PyData)) (k : Int) (d : PyData) : List (Int × PyData) :=
  if (kvs.any fun p => decide (p.1 = k)) = true then kvs.map (fun p => if p.1 = k then (p.1, d) else p) else kvs ++ [(k, d)]
def valZ (k : Int) : List (Int × PyData) → Option PyData
  | [] => none
  | (j, d) :: r => if j = k then some d else valZ k r
theorem drel_any {G : Hp} {k : Int} : ∀ {ws : List (Key × V)} {kvs : List (Int × PyData)}, DRel G ws kvs → (ws.any fun kv => decide (kv.1 = (Sum.inl k : Key))) = (kvs.any fun p => decide (p.1 = k))
  | _, _, .nil => rfl
  | _, _, @DRel.cons _ j v d ws kvs r t => by
    show (decide ((Sum.inl j : Key) = Sum.inl k) || ws.any _) = (decide (j = k) || kvs.any _)
    rw [drel_any t]
    congr 1
    by_cases h : j = k
    · subst h; simp
    · have h2 : ¬ (Sum.inl j : Key) = Sum.inl k := fun z => h (Sum.inl.inj z)
      rw [decide_eq_false h, decide_eq_false h2]
theorem drel_map {G : Hp} {k : Int} {v : V} {d : PyData} (r : Rp G v d) : ∀ {ws : List (Key × V)} {kvs : List (Int × PyData)}, DRel G ws kvs → DRel G (ws.map fun kv => if kv.1 = (Sum.inl k : Key) then (kv.1, v) else kv) (kvs.map fun p => if p.1 = k then (p.1, d) else p)
  | _, _, .nil => .nil
  | _, _, @DRel.cons _ j u c ws kvs q t => by
    rw [List.map_cons, List.map_cons]
    by_cases h : j = k
    · subst h
      rw [if_pos rfl, if_pos rfl]
      exact .cons r (drel_map r t)
    · have h2 : ¬ (Sum.inl j : Key) = Sum.inl k := fun z => h (Sum.inl.inj z)
      rw [if_neg h2, if_neg h]
      exact .cons q (drel_map r t)
theorem drel_app {G : Hp} {k : Int} {v : V} {d : PyData} (r : Rp G v d) : ∀ {ws : List (Key × V)} {kvs : List (Int × PyData)}, DRel G ws kvs → DRel G (ws ++ [(Sum.inl k, v)]) (kvs ++ [(k, d)])
  | _, _, .nil => .cons r .nil
  | _, _, .cons q t => .cons q (drel_app r t)
theorem drel_put {G : Hp} {k : Int} {v : V} {d : PyData} {ws : List (Key × V)} {kvs : List (Int × PyData)} (r : Rp G v d) (h : DRel G ws kvs) : DRel G (putK ws (Sum.inl k) v) (putZ kvs k d) := by
  unfold putK putZ
  rw [drel_any h]
  by_cases c : (kvs.any fun p => decide (p.1 = k)) = true
  · rw [if_pos c, if_pos c]; exact drel_map r h
  · rw [if_neg c, if_neg c]; exact drel_app r h
theorem drel_len {G : Hp} : ∀ {ws : List (Key × V)} {kvs : List (Int × PyData)}, DRel G ws kvs → ws.length = kvs.length
  | _, _, .nil => rfl
  | _, _, .cons _ t => congrArg Nat.succ (drel_len t)
theorem drel_val {G : Hp} {k : Int} {d : PyData} : ∀ {ws : List (Key × V)} {kvs : List (Int × PyData)}, DRel G ws kvs → valZ k kvs = some d → ∃ v, valV ws (Sum.inl k : Key) = some v ∧ Rp G v d
  | _, _, .nil, h => by cases h
  | _, _, @DRel.cons _ j u c ws kvs q t, h => by
    unfold valZ at h
    by_cases e : j = k
    · rw [if_pos e] at h
      cases h
      subst e
      exact ⟨u, valV_pos rfl, q⟩
    · rw [if_neg e] at h
      obtain ⟨v, h1, h2⟩ := drel_val t h
      exact ⟨v, by rw [valV_neg fun z => e (Sum.inl.inj z)]; exact h1, h2⟩
theorem drel_keys {G : Hp} : ∀ {ws : List (Key × V)} {kvs : List (Int × PyData)}, DRel G ws kvs → (ws.map fun kv => kV kv.1) = (kvs.map (·.1)).map V.int
  | _, _, .nil => rfl
  | _, _, .cons _ t => by
    rw [List.map_cons, drel_keys t]
    rfl
def bPutD (i : Nat) (fk fv : Fe) : Fb := fun env => (fv env).bind fun d => match env[i]? with
  | some (.ownD xs) => (fk env).bind fun k => match k with
    | .int z => if xs.length < 1000 then some (.nx (env.set i (.ownD (putZ xs z d)))) else none
    | _ => none
  | _ => none
theorem ds_putD (i : Nat) {x : Str} {px tpos : Pos} {k : Expr} {n : Nat} (hr : Room n X.A) (hk : PE X k (tD cs fk)) (he : PE X e (tD cs fv)) (hi : X.N[i]? = some x := by rfl) (hv : Vis X.env.scope x := by first | exact Or.inl rfl | exact Or.inr (Or.inl rfl) | exact Or.inr (Or.inr rfl)) (hd : (x == ("__debug__" : Str)) = false := by decide) (hcd : (x == ("__classdict__" : Str)) = false := by decide)
    (hs : swapsWith e (some (.Subscript (.Name x px) k tpos)) pos.line X.env = pure false := by rfl) :
    PS X (.Assign [.Subscript (.Name x px) k tpos] e pos) (tDS cs (bPutD i fk fv)) := PS.imp (ps_dput (by have := hr.units; omega) (pe_var hi hv hd hcd) hk he hs) fun D σ H h => by
  obtain ⟨G0, H0, G, env, r, x, er, ee, q⟩ := h
  unfold bPutD at ee
  cases ev : fv env with
  | none => rw [ev] at ee; cases ee
  | some d =>
    rw [ev] at ee
    have e1 : (match env[i]? with
      | some (.ownD xs) => (fk env).bind fun k => match k with
        | .int z => if xs.length < 1000 then some (Fl.nx (env.set i (.ownD (putZ xs z d)))) else none
        | _ => none
      | _ => none) = some r := ee
    cases ei : env[i]? with
    | none => rw [ei] at e1; cases e1
    | some s =>
      rw [ei] at e1
      cases s with
      | ownD xs =>
        have e2 : ((fk env).bind fun k => match k with
          | .int z => if xs.length < 1000 then some (Fl.nx (env.set i (.ownD (putZ xs z d)))) else none
          | _ => none) = some r := e1
        cases ek : fk env with
        | none => rw [ek] at e2; cases e2
        | some kd =>
          rw [ek] at e2
          cases kd with
          | int z =>
            have e3 : (if xs.length < 1000 then some (Fl.nx (env.set i (.ownD (putZ xs z d)))) else none) = some r := e2
            by_cases hl : xs.length < 1000
            · rw [if_pos hl] at e3
              cases e3
              refine ⟨H0, G, env, d, x.wd, er, ev, fun G1 H1 v x1 rv => ?_⟩
              have er1 := er.ext x.wd x1
              obtain ⟨a, vs, s1, h0, g, h, rr⟩ := er1.at_ i _ ei
              refine ⟨.ref a, s1, ?_⟩
              refine ⟨H0, G1, env, .int z, x1.wd, er1, ek, fun G2 H2 kv x2 rk => ?_⟩
              have er2 := er1.ext x1.wd x2
              obtain ⟨a', vs', s1', h0', g', h', rr'⟩ := er2.at_ i _ ei
              rw [s1] at s1'
              cases s1'
              have hn := drel_put (k := z) (rv.mono x2.old) rr'
              obtain ⟨x3, er3⟩ := env_chg (i := i) (o' := .dK (putK vs' (Sum.inl z) v)) (t := .ownD (putZ xs z d)) ((x.trans x1).trans x2) er2 ei rfl s1 h0' g' h' (fun ps w => by cases w) ⟨a, _, rfl, h0', g', upd_same, hn⟩ rfl
              have ekv := rk.int_inv
              subst ekv
              exact ⟨a, _, rfl, DPut.k (k := .inl z) h' (by rw [drel_len rr', sizeLine_eq]; omega), q _ _ _ x3 (x1.old.trans x2.old) er3⟩
            · rw [if_neg hl] at e3
              cases e3
          | _ => cases e2
      | _ => cases e1
/-- x[k], x an own dict -/
def fGetD (i : Nat) (fk : Fe) : Fe := fun env => match env[i]? with
  | some (.ownD xs) => (fk env).bind fun k => match k with
    | .int z => valZ z xs
    | _ => none
  | _ => none
theorem de_getD (i : Nat) {x : Str} {px : Pos} {k : Expr} {n : Nat} (hr : Room n X.A) (hk : PE X k (tD cs fk)) (hi : X.N[i]? = some x := by rfl) (hv : Vis X.env.scope x := by first | exact Or.inl rfl | exact Or.inr (Or.inl rfl) | exact Or.inr (Or.inr rfl)) (hd : (x == ("__debug__" : Str)) = false := by decide) (hcd : (x == ("__classdict__" : Str)) = false := by decide) (hs : NoSl k := by exact fun _ _ => rfl) :
    PE X (.Subscript (.Name x px) k pos) (tD cs (fGetD i fk)) := PE.imp (pe_dget (by have := hr.units; omega) (pe_var hi hv hd hcd) hk hs) fun σ H Q h => by
  obtain ⟨H0, G, env, c, w, er, ee, q⟩ := h
  unfold fGetD at ee
  cases ei : env[i]? with
  | none => rw [ei] at ee; cases ee
  | some s =>
    rw [ei] at ee
    cases s with
    | ownD xs =>
      have e2 : ((fk env).bind fun k => match k with
        | .int z => valZ z xs
        | _ => none) = some c := ee
      cases ek : fk env with
      | none => rw [ek] at e2; cases e2
      | some kd =>
        rw [ek] at e2
        cases kd with
        | int z =>
          have e3 : valZ z xs = some c := e2
          obtain ⟨a, vs, s1, h0, g, h, rr⟩ := er.at_ i _ ei
          refine ⟨.ref a, s1, ?_⟩
          refine ⟨H0, G, env, .int z, w, er, ek, fun G1 H1 kv x1 rk => ?_⟩
          have er1 := er.ext w x1
          obtain ⟨a', vs', s1', h0', g', h', rr'⟩ := er1.at_ i _ ei
          rw [s1] at s1'
          cases s1'
          obtain ⟨v, v1, v2⟩ := drel_val rr' e3
          have ekv := rk.int_inv
          subst ekv
          have dg := DGet.k (k := .inl z) h'
          rw [v1] at dg
          exact ⟨a, v, rfl, dg, q G1 H1 v x1 v2⟩
        | _ => cases e2
    | _ => cases ee
/-- list(x), x an own dict -/
def fKeys (i : Nat) : Fe := fun env => match env[i]? with
  | some (.ownD xs) => some (.list ((xs.map (·.1)).map .int))
  | _ => none
theorem de_keys (i : Nat) {x : Str} {px p : Pos} (hm : X.mg "list" = none) (hi : X.N[i]? = some x := by rfl) (hv : Vis X.env.scope x := by first | exact Or.inl rfl | exact Or.inr (Or.inl rfl) | exact Or.inr (Or.inr rfl)) (hd : (x == ("__debug__" : Str)) = false := by decide) (hcd : (x == ("__classdict__" : Str)) = false := by decide) (hc : X.calm = true := by rfl)
    (hg : Gl X "list" := by rfl) (hse : starEach (.Name x px :: []) X.env = (false, eval (.Name x px) X.env) :: starEach [] X.env := by rfl) (hpl : (backTo pos (starEach [] X.env)).any (·.1) = false := by rfl) :
    PE X (.Call (.Name "list" p) [.Name x px] [] pos) (tD cs (fKeys i)) := PE.imp (pe_callTy (call_list_dK hc) hg hm boot_list (pa_cons (pe_var hi hv hd hcd) pa_nil hse) (by decide) (by decide) hse hpl) fun σ H Q h => by
  obtain ⟨H0, G, env, c, w, er, ee, q⟩ := h
  unfold fKeys at ee
  cases ei : env[i]? with
  | none => rw [ei] at ee; cases ee
  | some s =>
    rw [ei] at ee
    cases s with
    | ownD xs =>
      cases ee
      obtain ⟨a, vs, s1, h0, g, h, rr⟩ := er.at_ i _ ei
      refine ⟨.ref a, s1, a, vs, rfl, h, fun p hp => ?_⟩
      have x1 := Ext.laid (o := .lst (vs.map fun kv => kV kv.1)) w hp
      refine q _ _ _ x1 (.lst upd_same ?_)
      rw [drel_keys rr]
      exact RpAll.ints _
    | _ => cases ee
/-! own lists are read -/
def fAtO (i : Nat) (fk : Fe) : Fe := fun env => match env[i]? with
  | some (.own xs) => (fk env).bind fun k => match k with
    | .int z => atI xs z
    | _ => none
  | _ => none
theorem de_atO (i : Nat) {x : Str} {px : Pos} {k : Expr} (hk : PE X k (tD cs fk)) (hi : X.N[i]? = some x := by rfl) (hv : Vis X.env.scope x := by first | exact Or.inl rfl | exact Or.inr (Or.inl rfl) | exact Or.inr (Or.inr rfl)) (hd : (x == ("__debug__" : Str)) = false := by decide) (hcd : (x == ("__classdict__" : Str)) = false := by decide) (hs : PlainIx k := by exact fun _ _ => rfl) :
    PE X (.Subscript (.Name x px) k pos) (tD cs (fAtO i fk)) := PE.imp (pe_ix ix_list (pe_var hi hv hd hcd) hk hs) fun σ H Q h => by
  obtain ⟨H0, G, env, c, w, er, ee, q⟩ := h
  unfold fAtO at ee
  cases ei : env[i]? with
  | none => rw [ei] at ee; cases ee
  | some s =>
    rw [ei] at ee
    cases s with
    | own xs =>
      have e2 : ((fk env).bind fun k => match k with
        | .int z => atI xs z
        | _ => none) = some c := ee
      cases ek : fk env with
      | none => rw [ek] at e2; cases e2
      | some kd =>
        rw [ek] at e2
        cases kd with
        | int z =>
          have e3 : atI xs z = some c := e2
          obtain ⟨a, vs, s1, h0, g, h, rr⟩ := er.at_ i _ ei
          refine ⟨.ref a, s1, ?_⟩
          refine ⟨H0, G, env, .int z, w, er, ek, fun G1 H1 kv x1 rk => ?_⟩
          have er1 := er.ext w x1
          obtain ⟨a', vs', s1', h0', g', h', rr'⟩ := er1.at_ i _ ei
          rw [s1] at s1'
          cases s1'
          obtain ⟨v, v1, v2⟩ := rr'.atI e3
          exact ⟨a, vs', z, v, rfl, rk.int_inv, SqL.of h', v1, q G1 H1 v x1 v2⟩
        | _ => cases e2
    | _ => cases ee
def fLenO (i : Nat) : Fe := fun env => match env[i]? with
  | some (.own xs) => some (.int xs.length)
  | _ => none
theorem de_lenO (i : Nat) {x : Str} {px p : Pos} (hm : X.mg "len" = none) (hi : X.N[i]? = some x := by rfl) (hv : Vis X.env.scope x := by first | exact Or.inl rfl | exact Or.inr (Or.inl rfl) | exact Or.inr (Or.inr rfl)) (hd : (x == ("__debug__" : Str)) = false := by decide) (hcd : (x == ("__classdict__" : Str)) = false := by decide)
    (hg : Gl X "len" := by rfl) (hse : starEach (.Name x px :: []) X.env = (false, eval (.Name x px) X.env) :: starEach [] X.env := by rfl) (hpl : (backTo pos (starEach [] X.env)).any (·.1) = false := by rfl) :
    PE X (.Call (.Name "len" p) [.Name x px] [] pos) (tD cs (fLenO i)) := PE.imp (pe_callB call_len_seq hg hm PySem.boot_len (pa_cons (pe_var hi hv hd hcd) pa_nil hse) (by decide) (by decide) hse hpl) fun σ H Q h => by
  obtain ⟨H0, G, env, c, w, er, ee, q⟩ := h
  unfold fLenO at ee
  cases ei : env[i]? with
  | none => rw [ei] at ee; cases ee
  | some s =>
    rw [ei] at ee
    cases s with
    | own xs =>
      cases ee
      obtain ⟨a, vs, s1, h0, g, h, rr⟩ := er.at_ i _ ei
      exact ⟨.ref a, s1, a, vs, rfl, .inl (SqL.of h), by rw [rr.length]; exact q G H _ (Ext.refl w) (.int _)⟩
    | _ => cases ee
/-- a, b, x = e, f, [] -/
def bTri (i j l : Nat) (fa fb : Fe) : Fb := fun env => (fa env).bind fun d => (fb env).bind fun c => some (.nx (((env.set i (.dat d)).set j (.dat c)).set l (.own [])))
theorem ds_tri (i j l : Nat) {a b : Expr} {fa fb : Fe} {x y z : Str} {px py pz pt pn pt2 : Pos} {kt k2 : Nat} (ha : PE X a (tD cs fa)) (hb : PE X b (tD cs fb)) (hN : X.N.Nodup) (hc : X.calm = true := by rfl) (hi : X.N[i]? = some x := by rfl) (hj : X.N[j]? = some y := by rfl) (hl : X.N[l]? = some z := by rfl)
    (hx : Loc X.env.scope x := by first | exact Or.inl rfl | exact Or.inr rfl) (hy : Loc X.env.scope y := by first | exact Or.inl rfl | exact Or.inr rfl) (hz : Loc X.env.scope z := by first | exact Or.inl rfl | exact Or.inr rfl)
    (fx : X.fn x = true ∨ X.env.scope.names.lookup x = some .local := by first | exact .inl rfl | exact .inr rfl) (fy : X.fn y = true ∨ X.env.scope.names.lookup y = some .local := by first | exact .inl rfl | exact .inr rfl) (fz : X.fn z = true ∨ X.env.scope.names.lookup z = some .local := by first | exact .inl rfl | exact .inr rfl)
    (h1 : starEach (a :: [b, .List [] pn]) X.env = (false, eval a X.env) :: starEach [b, .List [] pn] X.env := by rfl) (h2 : starEach (b :: [.List [] pn]) X.env = (false, eval b X.env) :: starEach [.List [] pn] X.env := by rfl) (h3 : starEach (.List [] pn :: []) X.env = (false, eval (.List [] pn) X.env) :: starEach [] X.env := by rfl)
    (hs : swapsWithSole [.Tuple [.Name x px, .Name y py, .Name z pz] kt pt] (.Tuple [a, b, .List [] pn] k2 pt2) pos.line X.env = pure false := by rfl) (hw : swappedStores [.Tuple [.Name x px, .Name y py, .Name z pz] kt pt] (.Tuple [a, b, .List [] pn] k2 pt2) X.env = pure none := by rfl)
    (hA : (assignEach [.Tuple [.Name x px, .Name y py, .Name z pz] kt pt] X.env).map (·.2) = [assign (.Tuple [.Name x px, .Name y py, .Name z pz] kt pt) X.env] := by rfl) :
    PS X (.Assign [.Tuple [.Name x px, .Name y py, .Name z pz] kt pt] (.Tuple [a, b, .List [] pn] k2 pt2) pos) (tDS cs (bTri i j l fa fb)) :=
  PS.imp (ps_asg (pe_tup (pa_cons ha (pa_cons hb (pa_cons (pe_lst pa_nil) pa_nil h3) h2) h1)) (pg_tup hc (pgs_cons (pg_name hN hi hx fx) (pgs_cons (pg_name hN hj hy fy) (pgs_cons (pg_name hN hl hz fz) pgs_nil)))) hs hw hA) fun D σ H h => by
  obtain ⟨G0, H0, G, env, r, x, er, ee, q⟩ := h
  unfold bTri at ee
  cases ea : fa env with
  | none => rw [ea] at ee; cases ee
  | some d =>
    cases eb : fb env with
    | none => rw [ea, eb] at ee; cases ee
    | some c =>
      rw [ea, eb] at ee
      cases ee
      refine ⟨H0, G, env, d, x.wd, er, ea, fun G1 H1 va x1 ra => ?_⟩
      refine ⟨H0, G1, env, c, x1.wd, er.ext x.wd x1, eb, fun G2 H2 vb x2 rb => ?_⟩
      have x12 := x1.trans x2
      have xx := x.trans x12
      have er2 := er.ext x.wd x12
      refine ⟨Nat.zero_le _, fun p hp => ?_⟩
      refine ⟨by show 3 ≤ sizeLine; decide, fun t ht => ?_⟩
      have x3 := Ext.laidOwn (o := .lst []) x2.wd hp
      have x4 := Ext.laidOwn (o := .tup [va, vb, .ref p]) x3.wd ht
      refine ⟨t, [va, vb, .ref p], rfl, SqT.of upd_same, rfl, va, [vb, .ref p], rfl, vb, [.ref p], rfl, .ref p, [], rfl, rfl, ?_⟩
      have npt : p ≠ t := fun z => by rw [← z, upd_same] at ht; cases ht
      have er4 : EnvR H0 G2 (upd (upd H2 p (.lst [])) t (.tup [va, vb, .ref p])) (((σ.set i (some va)).set j (some vb)).set l (some (.ref p))) (((env.set i (.dat d)).set j (.dat c)).set l (.own [])) := by
        refine env_put xx ((er2.setD i (ra.mono x2.old)).setD j rb) (x3.trans x4) hp ⟨p, [], rfl, fresh0 xx hp, x2.wd.free hp, ?_, .nil⟩
        rw [upd_ne npt, upd_same]
      exact q _ _ _ (xx.trans (x3.trans x4)) x12.old er4
end
end DL

/-! Dl11: facts of the module, calls by name, scopes by a check. -/
namespace DL
open PySem PySem.Spec PyProof.Rows L2

/-- names that the module leaves as they are -/
structure Blt (mg : Str → Option Value) : Prop where
  len : mg "len" = none
  isi : mg "isinstance" = none
  tup : mg "tuple" = none
  lst : mg "list" = none
  int : mg "int" = none
  bl : mg "bool" = none
  str : mg "str" = none
  rng : mg "range" = none
  srt : mg "sorted" = none
  sum : mg "sum" = none
  all : mg "all" = none
  any : mg "any" = none
  max : mg "max" = none
  enm : mg "enumerate" = none
  zip : mg "zip" = none
  set : mg "set" = none
/-- a def of the text, as it stands -/
def Dn (K : PySem.W.Frag) (mg : Str → Option Value) (x : Str) (st : Stmt) : Prop := ∃ f fd, FunD K x x (defArgs st) (defBody st) (defScope st) [] [] f fd ∧ mg x = some (.ref f)
/-- .. with its code's table -/
def DnT (K : PySem.W.Frag) (mg : Str → Option Value) (base : Heap) (cs : Cs) (x : Str) (st : Stmt) : Prop := ∃ f fd, FunD K x x (defArgs st) (defBody st) (defScope st) [] [] f fd ∧ mg x = some (.ref f) ∧ ∃ c Pt, fd.code = .ref c ∧ Tab cs Pt ∧ GxR.TabB base mg c Pt
/-- what may be called by a name -/
def Cal (P : Program) (w : World) (K : PySem.W.Frag) (mg : Str → Option Value) (base : Heap) (x : Str) (k : Nat) (sp : Sp) : Prop := ∃ f fd ps, FnOk P w K mg base CX0 k f fd ps sp ∧ mg x = some (.ref f) ∧ PySem.W.keepIn K (.ref f) = true ∧ Binds K fd ps []
section
variable {X : Cx} {cs : Cs} {pos p : Pos} {e : Expr} {es : List Expr} {fs : Fs} {x : Str} {k n : Nat}
theorem de_cal {m : List PyData → Option PyData} (C : Cal X.prog X.w X.K X.mg X.base x k (spD cs m n)) (hr : Room k X.A) (ha : PA X (e :: es) (tDA cs fs)) (hg : Gl X x := by rfl)
    (hdb : (x == ("__debug__" : Str)) = false := by decide) (he : starEach (e :: es) X.env = (false, eval e X.env) :: starEach es X.env := by rfl) (hpl : (backTo pos (starEach es X.env)).any (·.1) = false := by rfl) :
    PE X (.Call (.Name x p) (e :: es) [] pos) (tD cs (fS (gN n m) fs)) := by
  obtain ⟨f, fd, ps, F, hm, hk, hb⟩ := C
  exact de_call F hr hm hk hb ha hg hdb he hpl
theorem de_calO {m : List PyData → Option (List PyData)} (C : Cal X.prog X.w X.K X.mg X.base x k (spO cs m n)) (hr : Room k X.A) (ha : PA X (e :: es) (tDA cs fs)) (hg : Gl X x := by rfl)
    (hdb : (x == ("__debug__" : Str)) = false := by decide) (he : starEach (e :: es) X.env = (false, eval e X.env) :: starEach es X.env := by rfl) (hpl : (backTo pos (starEach es X.env)).any (·.1) = false := by rfl) :
    PE X (.Call (.Name x p) (e :: es) [] pos) (tDO cs (gNO n m fs)) := by
  obtain ⟨f, fd, ps, F, hm, hk, hb⟩ := C
  exact de_callO F hr hm hk hb ha hg hdb he hpl
theorem Cal.mono {P : Program} {w : World} {K : PySem.W.Frag} {mg : Str → Option Value} {base : Heap} {sp sp' : Sp} (C : Cal P w K mg base x k sp) (h : ∀ vs H Q E, sp' vs H Q E → sp vs H Q E) : Cal P w K mg base x k sp' := by
  obtain ⟨f, fd, ps, F, hm, hk, hb⟩ := C
  exact ⟨f, fd, ps, DL.FnOk.imp F h, hm, hk, hb⟩
theorem de_gi (i : Int) {x : Str} (hm : ∃ t, X.mg x = some (.int i t)) (hg : Gl X x := by rfl) (hd : (x == ("__debug__" : Str)) = false := by decide) : PE X (.Name x pos) (tD cs (fC (.int i))) := by
  obtain ⟨t, h⟩ := hm
  exact de_glob hg h hd
end
section
variable {P : Program} {w : World} {K : PySem.W.Frag} {mg : Str → Option Value} {base : Heap} {cs : Cs} {x : Str} {st : Stmt} {N ps : List Str} {k n : Nat} {b : Fb}
abbrev cxD (P : Program) (w : World) (K : PySem.W.Frag) (mg : Str → Option Value) (base : Heap) (N : List Str) (x : Str) (st : Stmt) (f : Addr) (cdv : Value) (A : Around) (outer : List PySem.Env) (s : Shared) (H : Hp) : Cx :=
  (cxOf CX0 P w K mg base N x (defScope st) f cdv A outer s H E0).nox
theorem cal_dat (D : Dn K mg x st) (S : FnScope N ps (defScope st)) (hn : n = ps.length) (hN : n ≤ N.length) (hbd : ∀ (kV doc pm : Value) (an : Option Addr) (cdv ct : Value) (us : List Value), us.length = ps.length → bindArgs (PySem.W.fnOf x x (defArgs st) (defBody st) (defScope st) .none kV doc pm an cdv ct) ⟨us, []⟩ = pure (ps.zip us))
    (body : ∀ (f : Addr) (cdv : Value) (A : Around) (outer : List PySem.Env) (s : Shared) (H : Hp), Room k (cxD P w K mg base N x st f cdv A outer s H).A → PSs (cxD P w K mg base N x st f cdv A outer s H) (defBody st) (tDS cs b)) : Cal P w K mg base x (k + 1) (spD cs (mk n N.length b) n) := by
  obtain ⟨f, fd, F, hm⟩ := D
  exact ⟨f, fd, ps, fn_dat F S hn hN fun cdv A outer s H _ hr => body f cdv A outer s H hr, hm, F.kp, F.bindsN hbd⟩
theorem cal_own (D : Dn K mg x st) (S : FnScope N ps (defScope st)) (hn : n = ps.length) (hN : n ≤ N.length) (hbd : ∀ (kV doc pm : Value) (an : Option Addr) (cdv ct : Value) (us : List Value), us.length = ps.length → bindArgs (PySem.W.fnOf x x (defArgs st) (defBody st) (defScope st) .none kV doc pm an cdv ct) ⟨us, []⟩ = pure (ps.zip us))
    (body : ∀ (f : Addr) (cdv : Value) (A : Around) (outer : List PySem.Env) (s : Shared) (H : Hp), Room k (cxD P w K mg base N x st f cdv A outer s H).A → PSs (cxD P w K mg base N x st f cdv A outer s H) (defBody st) (tDS cs b)) : Cal P w K mg base x (k + 1) (spO cs (mkO n N.length b) n) := by
  obtain ⟨f, fd, F, hm⟩ := D
  exact ⟨f, fd, ps, fn_own F S hn hN fun cdv A outer s H _ hr => body f cdv A outer s H hr, hm, F.kp, F.bindsN hbd⟩
theorem cal_tab (D : DnT K mg base cs x st) (S : FnScope N ps (defScope st)) (hn : n = ps.length) (hN : n ≤ N.length) (hbd : ∀ (kV doc pm : Value) (an : Option Addr) (cdv ct : Value) (us : List Value), us.length = ps.length → bindArgs (PySem.W.fnOf x x (defArgs st) (defBody st) (defScope st) .none kV doc pm an cdv ct) ⟨us, []⟩ = pure (ps.zip us))
    (body : ∀ (f c Pt : Addr) (A : Around) (outer : List PySem.Env) (s : Shared) (H : Hp), Tab cs Pt → GxR.TabB base mg c Pt → Room k (cxD P w K mg base N x st f (.ref c) A outer s H).A → PSs (cxD P w K mg base N x st f (.ref c) A outer s H) (defBody st) (tDS cs b)) : Cal P w K mg base x (k + 1) (spD cs (mk n N.length b) n) := by
  obtain ⟨f, fd, F, hm, c, Pt, hc, hT, hB⟩ := D
  exact ⟨f, fd, ps, fn_dat F S hn hN fun cdv A outer s H e hr => by
    have e2 : cdv = .ref c := e.symm.trans hc
    subst e2
    exact body f c Pt A outer s H hT hB hr, hm, F.kp, F.bindsN hbd⟩
end
/-! ### scopes by a check -/
def blkB (N : List Str) (sc scope : Scope) (own : List (Str × Nat)) : Bool :=
  (scope.kind == .function) && ((scope.names.all fun y => scope.names.lookup y.1 == some y.2) && ((own.all fun p => decide (N[p.2]? = some p.1)) && ((scope.names.all fun y => y.2 != .free || (sc.names.lookup y.1 == some .cell || sc.names.lookup y.1 == some .free)) &&
    (scope.names.all fun y => !(y.2 == .local || y.2 == .cell) || ((own.any fun p => decide (p.1 = y.1)) || (N.all fun z => !decide (z = y.1)))))))
theorem blk_of {N : List Str} {sc scope : Scope} {own : List (Str × Nat)} (h : blkB N sc scope own = true) : BlkOk N sc scope own := by
  unfold blkB at h
  obtain ⟨h1, h⟩ := Bool.and_eq_true_iff.mp h
  obtain ⟨h2, h⟩ := Bool.and_eq_true_iff.mp h
  obtain ⟨h3, h⟩ := Bool.and_eq_true_iff.mp h
  obtain ⟨h4, h5⟩ := Bool.and_eq_true_iff.mp h
  refine ⟨by simpa using h1, fun y hy => ?_, fun p hp => ?_, fun y hy e => ?_, fun y hy e => ?_⟩
  · have := List.all_eq_true.mp h2 y hy
    simpa using this
  · have := List.all_eq_true.mp h3 p hp
    exact of_decide_eq_true this
  · have q := List.all_eq_true.mp h4 y hy
    rw [e] at q
    have q2 : (sc.names.lookup y.1 == some NameKind.cell || sc.names.lookup y.1 == some NameKind.free) = true := q
    rcases Bool.or_eq_true_iff.mp q2 with z | z
    · exact .inl (by simpa using z)
    · exact .inr (by simpa using z)
  · have q := List.all_eq_true.mp h5 y hy
    have q2 : (!(y.2 == .local || y.2 == .cell)) = false := by
      rcases e with e | e <;> rw [e] <;> rfl
    have q : ((!(y.2 == .local || y.2 == .cell)) || ((own.any fun p => decide (p.1 = y.1)) || (N.all fun z => !decide (z = y.1)))) = true := q
    rw [q2, Bool.false_or] at q
    rcases Bool.or_eq_true_iff.mp q with z | z
    · obtain ⟨p, hp, e⟩ := List.any_eq_true.mp z
      exact .inl (List.mem_map.mpr ⟨p, hp, of_decide_eq_true e⟩)
    · refine .inr fun hN => ?_
      have := List.all_eq_true.mp z y.1 hN
      simp at this
def gokB (N : List Str) (sc scope : Scope) (x : Str) (i : Nat) : Bool :=
  blkB N sc scope [(x, i)] && (!scope.isCoroutine && ((scope.names.all fun y => y.2 != .cell) && (scope.names.lookup (".0" : Str) == some NameKind.local && scope.names.lookup x == some NameKind.local)))
theorem gok_of {N : List Str} {sc scope : Scope} {x : Str} {i : Nat} (h : gokB N sc scope x i = true) : GOk N sc scope x i := by
  unfold gokB at h
  obtain ⟨h1, h⟩ := Bool.and_eq_true_iff.mp h
  obtain ⟨h2, h⟩ := Bool.and_eq_true_iff.mp h
  obtain ⟨h3, h⟩ := Bool.and_eq_true_iff.mp h
  obtain ⟨h4, h5⟩ := Bool.and_eq_true_iff.mp h
  refine ⟨blk_of h1, by simpa using h2, fun y hy e => ?_, by simpa using h4, by simpa using h5⟩
  have := List.all_eq_true.mp h3 y hy
  rw [e] at this
  cases this
abbrev topS (i : Nat) : Stmt := PySem.Challenge.pw_groupdeeds_k15_whole_likings.main.body.getD i (.Pass ⟨0, 0, 0, 0⟩)
end DL

/-! Dl12: the rest that the printed terms use. -/
namespace DL
open PySem PySem.Spec PyProof.Rows L2
def uNot (d : PyData) : Option PyData := (isB d).bind fun b => some (.bool (!b))
def uNeg (d : PyData) : Option PyData := match d with | .int i => some (.int (-i)) | _ => none
def uIsN (d : PyData) : Option PyData := some (.bool (isN d))
def uIs (p : PyData → Bool) (d : PyData) : Option PyData := some (.bool (p d))
def uIsSeq (d : PyData) : Option PyData := some (.bool (isSeq d))
def frzM (m : List PyData → Option (List PyData)) (ds : List PyData) : Option PyData := (m ds).bind fun xs => some (.list xs)
/-- an expression as a statement -/
def bDo (fe : Fe) : Fb := fun env => (fe env).bind fun _ => some (.nx env)
theorem ds_do {X : Cx} {cs : Cs} {pos : Pos} {e : Expr} {fe : Fe} (he : PE X e (tD cs fe)) (hs : swapsWith e none pos.line X.env = pure false := by rfl) : PS X (.Expr e pos) (tDS cs (bDo fe)) := PS.imp (ps_expr he hs) fun D σ H h => by
  obtain ⟨G0, H0, G, env, r, x, er, ee, q⟩ := h
  unfold bDo at ee
  cases ef : fe env with
  | none => rw [ef] at ee; cases ee
  | some d =>
    rw [ef] at ee
    cases ee
    exact ⟨H0, G, env, d, x.wd, er, ef, fun G' H' v x' _ => q G' H' σ (x.trans x') x'.old (er.ext x.wd x')⟩
/-- what is never called -/
theorem cal_none {P : Program} {w : World} {K : PySem.W.Frag} {mg : Str → Option Value} {base : Heap} {cs : Cs} {x : Str} {st : Stmt} {N ps : List Str} {n : Nat} (D : Dn K mg x st) (hn : n = ps.length)
    (hbd : ∀ (kV doc pm : Value) (an : Option Addr) (cdv ct : Value) (us : List Value), us.length = ps.length → bindArgs (PySem.W.fnOf x x (defArgs st) (defBody st) (defScope st) .none kV doc pm an cdv ct) ⟨us, []⟩ = pure (ps.zip us)) : Cal P w K mg base x 0 (spD cs (fun _ => none) n) := by
  obtain ⟨f, fd, F, hm⟩ := D
  refine ⟨f, fd, ps, ⟨fun vs H Q E h => h.1.trans hn, fun A outer s H args us vs Q E hr e0 hb r h => ?_⟩, hm, F.kp, F.bindsN hbd⟩
  obtain ⟨_, _, _, _, _, _, e, _⟩ := h
  cases e

/-! ### comparisons as tests -/
def fBt (f : Fe) : Ft := fun env => (f env).bind isB
section
variable {X : Cx} {cs : Cs} {pos : Pos} {a b c : Expr} {fa fb fc : Fe}
theorem tDT_B {f : Fe} {σ : L2.St} {H : Hp} {Q : Bool → Hp → Prop} (h : tDT cs (fBt f) σ H Q) : tD cs f σ H fun z H3 => ∃ k, z = .bl k ∧ Q k H3 := by
  obtain ⟨H0, G, env, b, w, r, e, q⟩ := h
  unfold fBt at e
  cases ef : f env with
  | none => rw [ef] at e; cases e
  | some d =>
    rw [ef] at e
    have ex := isB_inv (show isB d = some b from e)
    subst ex
    exact ⟨H0, G, env, _, w, r, ef, fun G' H' v x rv => ⟨b, rv.bl_inv, q G' H' x⟩⟩
theorem dt_cmp {op : CmpOp} {r : R2} {g : PyData → PyData → Option PyData} (ho : OpR X (compareOp op) r) (hr : DatR cs g r) (ha : PE X a (tD cs fa)) (hb : PE X b (tD cs fb)) (hm : behindInMarks op b = false) : PT X (.Compare a [op] [b] pos) (tDT cs (fBt (b2 g fa fb))) :=
  PT.imp (pt_cmpR ho ha hb hm) fun _ _ _ h => tD_op hr (tDT_B h)
theorem dt_lt {k : Nat} (hr : Room k X.A) (ha : PE X a (tD cs fa)) (hb : PE X b (tD cs fb)) : PT X (.Compare a [.Lt] [b] pos) (tDT cs (fBt (b2 gLt fa fb))) := dt_cmp (or_lt (hu64 hr)) (datR_of gLt_b) ha hb (nomark _)
theorem dt_eq {k : Nat} (hr : Room k X.A) (ha : PE X a (tD cs fa)) (hb : PE X b (tD cs fb)) : PT X (.Compare a [.Eq] [b] pos) (tDT cs (fBt (b2 gEq fa fb))) := dt_cmp (or_eq (hu64 hr)) (datR_of fun _ _ _ h => ⟨_, (if_some h).2.symm⟩) ha hb (nomark _)
theorem dt_ne {k : Nat} (hr : Room k X.A) (ha : PE X a (tD cs fa)) (hb : PE X b (tD cs fb)) : PT X (.Compare a [.NotEq] [b] pos) (tDT cs (fBt (b2 gNe fa fb))) := dt_cmp (or_ne (hu64 hr)) (datR_of fun _ _ _ h => ⟨_, (if_some h).2.symm⟩) ha hb (nomark _)
theorem dt_in {k : Nat} (hr : Room k X.A) (ha : PE X a (tD cs fa)) (hb : PE X b (tD cs fb)) (hm : behindInMarks .In b = false := by rfl) : PT X (.Compare a [.In] [b] pos) (tDT cs (fBt (b2 gIn fa fb))) := dt_cmp (or_in (hu64 hr)) (datR_of gIn_b) ha hb hm
theorem dt_notIn {k : Nat} (hr : Room k X.A) (ha : PE X a (tD cs fa)) (hb : PE X b (tD cs fb)) (hm : behindInMarks .NotIn b = false := by rfl) : PT X (.Compare a [.NotIn] [b] pos) (tDT cs (fBt (b2 gNotIn fa fb))) := dt_cmp (or_notIn (hu64 hr)) (datR_of gNotIn_b) ha hb hm
theorem dt_le (ha : PE X a (tD cs fa)) (hb : PE X b (tD cs fb)) : PT X (.Compare a [.LtE] [b] pos) (tDT cs (fBt (b2 gLe fa fb))) := dt_cmp op_le datB0 ha hb (nomark _)
theorem dt_gt (ha : PE X a (tD cs fa)) (hb : PE X b (tD cs fb)) : PT X (.Compare a [.Gt] [b] pos) (tDT cs (fBt (b2 gGt fa fb))) := dt_cmp op_gt datB0 ha hb (nomark _)
theorem dt_ge (ha : PE X a (tD cs fa)) (hb : PE X b (tD cs fb)) : PT X (.Compare a [.GtE] [b] pos) (tDT cs (fBt (b2 gGe fa fb))) := dt_cmp op_ge datB0 ha hb (nomark _)
theorem dt_isN {j pos'} (ha : PE X a (tD cs fa)) : PT X (.Compare a [.Is] [.Constant .none j pos'] pos) (tDT cs (fBt (f1 uIsN fa))) :=
  PT.imp (pt_cmp (pc_isN ha)) fun σ H Q h => tD_one (k := fun x H1 Q => Q (.bl (decide (x = .non))) H1) (fun G H x d c Q w rx e k => by
    cases e
    rw [dec_isN rx]
    exact k G H _ (Ext.refl w) (.bl _)) (tDT_B h)
end
end DL

/-! Dm1: the defs of groupings.py that the law reaches. -/
namespace DL
open PySem PySem.Spec PyProof.Rows L2
section
variable {P : Program} {w : World} {K : PySem.W.Frag} {mg : Str → Option Value} {base : Heap} {cs : Cs}
/-! is_in -/
def q8 : PSigma fun s : Stmt => s = topS 8 := by
  refine ⟨?s, ?h⟩
  case h =>
    conv => rhs; whnf
def s8 : Stmt := q8.1
theorem e8 : s8 = topS 8 := q8.2
abbrev N_is_in : List Str := ["value", "least", "most"]
theorem sc_is_in : FnScope N_is_in ["value", "least", "most"] (defScope s8) := ⟨rfl, rfl, rfl, by decide +kernel, rfl, by decide +kernel, by decide +kernel⟩
theorem hb_is_in : ∀ (kV doc pm : Value) (an : Option Addr) (cdv ct : Value) (us : List Value), us.length = 3 → bindArgs (PySem.W.fnOf "is_in" "is_in" (defArgs s8) (defBody s8) (defScope s8) .none kV doc pm an cdv ct) ⟨us, []⟩ = pure ((["value", "least", "most"] : List Str).zip us) :=
  fun _ _ _ _ _ _ us hl => match us, hl with | [_, _, _], _ => rfl
def b_is_in : Fb := (bRet (fAnd (f1 (uIs PyData.isInt) (fVar 0)) (fAnd (f1 uNot (f1 (uIs PyData.isBool) (fVar 0))) (fChain (fVar 1) (fVar 0) (fVar 2)))))
def m_is_in : List PyData → Option PyData := mk 3 3 b_is_in
theorem p_is_in (B : Blt mg) (f : Addr) (cdv : Value) (A : Around) (outer : List PySem.Env) (s : Shared) (H : Hp) (hr : Room 0 (cxD P w K mg base N_is_in "is_in" s8 f cdv A outer s H).A) :
    PSs (cxD P w K mg base N_is_in "is_in" s8 f cdv A outer s H) (defBody s8) (tDS cs b_is_in) :=
  (ds_one (ds_ret (de_and (de_isi isiB_int B.isi B.int boot_int (dv 0)) (de_and (de_not (de_isi isiB_bool B.isi B.bl (by decide +kernel) (dv 0))) (de_one (de_chain (dv 1) (dv 0) (dv 2)))))))
theorem c_is_in (B : Blt mg) (D : Dn K mg "is_in" s8) : Cal P w K mg base "is_in" 1 (spD cs m_is_in 3) :=
  cal_dat (N := N_is_in) (ps := ["value", "least", "most"]) (n := 3) (b := b_is_in) (k := 0) D sc_is_in rfl (by decide) hb_is_in (p_is_in B)
/-! need_size -/
def q9 : PSigma fun s : Stmt => s = topS 9 := by
  refine ⟨?s, ?h⟩
  case h =>
    conv => rhs; whnf
def s9 : Stmt := q9.1
theorem e9 : s9 = topS 9 := q9.2
abbrev N_need_size : List Str := ["size"]
theorem sc_need_size : FnScope N_need_size ["size"] (defScope s9) := ⟨rfl, rfl, rfl, by decide +kernel, rfl, by decide +kernel, by decide +kernel⟩
theorem hb_need_size : ∀ (kV doc pm : Value) (an : Option Addr) (cdv ct : Value) (us : List Value), us.length = 1 → bindArgs (PySem.W.fnOf "need_size" "need_size" (defArgs s9) (defBody s9) (defScope s9) .none kV doc pm an cdv ct) ⟨us, []⟩ = pure ((["size"] : List Str).zip us) :=
  fun _ _ _ _ _ _ us hl => match us, hl with | [_], _ => rfl
def b_need_size : Fb := (bIf (fNotT (fTru (fS (gN 3 m_is_in) (sCons (fVar 0) (sCons (fC (.int 1)) (sCons (fC (.int 6)) sNil)))))) (fun _ => none) bNx)
def m_need_size : List PyData → Option PyData := mk 1 1 b_need_size
theorem p_need_size (B : Blt mg) (G_MOST_PEOPLE : ∃ t, mg "MOST_PEOPLE" = some (.int 6 t)) (C_is_in : Cal P w K mg base "is_in" 1 (spD cs m_is_in 3)) (f : Addr) (cdv : Value) (A : Around) (outer : List PySem.Env) (s : Shared) (H : Hp) (hr : Room 1 (cxD P w K mg base N_need_size "need_size" s9 f cdv A outer s H).A) :
    PSs (cxD P w K mg base N_need_size "need_size" s9 f cdv A outer s H) (defBody s9) (tDS cs b_need_size) :=
  (ds_one (ds_if (dt_not (dt_val (de_cal C_is_in (hr.mono (j := 1) (by decide)) (da_cons (dv 0) (da_cons de_int (da_cons (de_gi 6 G_MOST_PEOPLE) da_nil)))))) (ds_one ds_never) ds_nil))
theorem c_need_size (B : Blt mg) (G_MOST_PEOPLE : ∃ t, mg "MOST_PEOPLE" = some (.int 6 t)) (C_is_in : Cal P w K mg base "is_in" 1 (spD cs m_is_in 3)) (D : Dn K mg "need_size" s9) : Cal P w K mg base "need_size" 2 (spD cs m_need_size 1) :=
  cal_dat (N := N_need_size) (ps := ["size"]) (n := 1) (b := b_need_size) (k := 1) D sc_need_size rfl (by decide) hb_need_size (p_need_size B G_MOST_PEOPLE C_is_in)
/-! is_lot -/
def q10 : PSigma fun s : Stmt => s = topS 10 := by
  refine ⟨?s, ?h⟩
  case h =>
    conv => rhs; whnf
def s10 : Stmt := q10.1
theorem e10 : s10 = topS 10 := q10.2
abbrev N_is_lot : List Str := ["size", "value", "k", "one"]
theorem sc_is_lot : FnScope N_is_lot ["size", "value"] (defScope s10) := ⟨rfl, rfl, rfl, by decide +kernel, rfl, by decide +kernel, by decide +kernel⟩
theorem hb_is_lot : ∀ (kV doc pm : Value) (an : Option Addr) (cdv ct : Value) (us : List Value), us.length = 2 → bindArgs (PySem.W.fnOf "is_lot" "is_lot" (defArgs s10) (defBody s10) (defScope s10) .none kV doc pm an cdv ct) ⟨us, []⟩ = pure ((["size", "value"] : List Str).zip us) :=
  fun _ _ _ _ _ _ us hl => match us, hl with | [_, _], _ => rfl
def b_is_lot : Fb := (bSeq (bIf (fOrT (fNotT (fTru (f1 (uIs PyData.isTuple) (fVar 1)))) (fOrT (fNotT (fTru (fVar 1))) (fNotT (fTru (fAll 3 (iSeq asTup (fVar 1)) (fS (gN 3 m_is_in) (sCons (fVar 3) (sCons (fC (.int 0)) (sCons (b2 gSub (fVar 0) (fC (.int 1))) sNil))))))))) (bRet (fC (.bool false))) bNx) (bRet (fAll 2 (iSeq asRg (b2 gSub (fS gLen (sCons (fVar 1) sNil)) (fC (.int 1)))) (b2 gLt (b2 gIx (fVar 1) (fVar 2)) (b2 gIx (fVar 1) (b2 gAdd (fVar 2) (fC (.int 1))))))))
def m_is_lot : List PyData → Option PyData := mk 2 4 b_is_lot
theorem p_is_lot (B : Blt mg) (C_is_in : Cal P w K mg base "is_in" 1 (spD cs m_is_in 3)) (f c Pt : Addr) (A : Around) (outer : List PySem.Env) (s : Shared) (H : Hp) (hT : Tab cs Pt) (hB : GxR.TabB base mg c Pt) (hr : Room 2 (cxD P w K mg base N_is_lot "is_lot" s10 f (.ref c) A outer s H).A) :
    PSs (cxD P w K mg base N_is_lot "is_lot" s10 f (.ref c) A outer s H) (defBody s10) (tDS cs b_is_lot) :=
  (ds_cons (ds_if (PW.pt (dw_or (dt_not (dt_val (de_isi isiB_tuple B.isi B.tup boot_tuple (dv 1)))) (dw_or (dt_not (dt_val (dv 1))) (dw_or1 (dt_not (dt_val (de_all (k := 1) (hr.mono (j := 2) (by decide)) hB hT rfl (gok_of (by rfl)) sc_is_lot.nd B.all (di_tup (dv 1)) (fun _ _ _ _ _ _ _ _ _ hr' => pg_name sc_is_lot.nd rfl (Or.inl rfl) (.inr rfl)) (fun _ _ _ _ _ _ _ _ _ hr' => (de_cal C_is_in (hr'.mono (j := 1) (by decide)) (da_cons (dv 3) (da_cons de_int (da_cons (de_sub (dv 0) de_int) da_nil)))))))))))) (ds_one (ds_ret de_bl)) ds_nil)
  (ds_one (ds_ret (de_all (k := 0) (hr.mono (j := 1) (by decide)) hB hT rfl (gok_of (by rfl)) sc_is_lot.nd B.all (di_rg1 B.rng (de_sub (de_callB cr_len B.len boot_len (da_cons (dv 1) da_nil)) de_int)) (fun _ _ _ _ _ _ _ _ _ hr' => pg_name sc_is_lot.nd rfl (Or.inl rfl) (.inr rfl)) (fun _ _ _ _ _ _ _ _ _ hr' => (de_lt hr' (de_at (dv 1) (dv 2)) (de_at (dv 1) (de_add (dv 2) de_int))))))))
theorem c_is_lot (B : Blt mg) (C_is_in : Cal P w K mg base "is_in" 1 (spD cs m_is_in 3)) (D : DnT K mg base cs "is_lot" s10) : Cal P w K mg base "is_lot" 3 (spD cs m_is_lot 2) :=
  cal_tab (N := N_is_lot) (ps := ["size", "value"]) (n := 2) (b := b_is_lot) (k := 2) D sc_is_lot rfl (by decide) hb_is_lot (p_is_lot B C_is_in)
/-! is_grouping -/
def q11 : PSigma fun s : Stmt => s = topS 11 := by
  refine ⟨?s, ?h⟩
  case h =>
    conv => rhs; whnf
def s11 : Stmt := q11.1
theorem e11 : s11 = topS 11 := q11.2
abbrev N_is_grouping : List Str := ["value", "people", "lot", "k"]
theorem sc_is_grouping : FnScope N_is_grouping ["value"] (defScope s11) := ⟨rfl, rfl, rfl, by decide +kernel, rfl, by decide +kernel, by decide +kernel⟩
theorem hb_is_grouping : ∀ (kV doc pm : Value) (an : Option Addr) (cdv ct : Value) (us : List Value), us.length = 1 → bindArgs (PySem.W.fnOf "is_grouping" "is_grouping" (defArgs s11) (defBody s11) (defScope s11) .none kV doc pm an cdv ct) ⟨us, []⟩ = pure ((["value"] : List Str).zip us) :=
  fun _ _ _ _ _ _ us hl => match us, hl with | [_], _ => rfl
def b_is_grouping : Fb := (bSeq (bIf (fOrT (fNotT (fTru (f1 (uIs PyData.isTuple) (fVar 0)))) (fOrT (fNotT (fTru (fVar 0))) (fNotT (fTru (fAll 2 (iSeq asTup (fVar 0)) (fS (gN 2 m_is_lot) (sCons (fC (.int 6)) (sCons (fVar 2) sNil)))))))) (bRet (fC (.bool false))) bNx) (bSeq (bSet 1 (fS gLst sNil)) (bSeq (bFor (iSeq asTup (fVar 0)) (gNm 2) (bSet 1 (b2 gAdd (fVar 1) (fS gList (sCons (fVar 2) sNil))))) (bSeq (bIf (fBt (b2 gNe (fS gSorted (sCons (fVar 1) sNil)) (f1 gLrg (fS gLen (sCons (fVar 1) sNil))))) (bRet (fC (.bool false))) bNx) (bRet (fAll 3 (iSeq asRg (b2 gSub (fS gLen (sCons (fVar 0) sNil)) (fC (.int 1)))) (b2 gLt (b2 gIx (fVar 0) (fVar 3)) (b2 gIx (fVar 0) (b2 gAdd (fVar 3) (fC (.int 1)))))))))))
def m_is_grouping : List PyData → Option PyData := mk 1 4 b_is_grouping
theorem p_is_grouping (B : Blt mg) (G_MOST_PEOPLE : ∃ t, mg "MOST_PEOPLE" = some (.int 6 t)) (C_is_lot : Cal P w K mg base "is_lot" 3 (spD cs m_is_lot 2)) (f c Pt : Addr) (A : Around) (outer : List PySem.Env) (s : Shared) (H : Hp) (hT : Tab cs Pt) (hB : GxR.TabB base mg c Pt) (hr : Room 4 (cxD P w K mg base N_is_grouping "is_grouping" s11 f (.ref c) A outer s H).A) :
    PSs (cxD P w K mg base N_is_grouping "is_grouping" s11 f (.ref c) A outer s H) (defBody s11) (tDS cs b_is_grouping) :=
  (ds_cons (ds_if (PW.pt (dw_or (dt_not (dt_val (de_isi isiB_tuple B.isi B.tup boot_tuple (dv 0)))) (dw_or (dt_not (dt_val (dv 0))) (dw_or1 (dt_not (dt_val (de_all (k := 3) (hr.mono (j := 4) (by decide)) hB hT rfl (gok_of (by rfl)) sc_is_grouping.nd B.all (di_tup (dv 0)) (fun _ _ _ _ _ _ _ _ _ hr' => pg_name sc_is_grouping.nd rfl (Or.inl rfl) (.inr rfl)) (fun _ _ _ _ _ _ _ _ _ hr' => (de_cal C_is_lot (hr'.mono (j := 3) (by decide)) (da_cons (de_gi 6 G_MOST_PEOPLE) (da_cons (dv 2) da_nil))))))))))) (ds_one (ds_ret de_bl)) ds_nil)
  (ds_cons (ds_set 1 (de_lst da_nil) sc_is_grouping.nd)
  (ds_cons (ds_for (di_tup (dv 0)) (dg_name 2 sc_is_grouping.nd) (ds_one (ds_set 1 (de_add (dv 1) (de_callTy cr_list B.lst boot_list (da_cons (dv 2) da_nil))) sc_is_grouping.nd)))
  (ds_cons (ds_if (dt_ne hr (de_callB (cr_sortedD hr) B.srt boot_sorted (da_cons (dv 1) da_nil)) (de_lrg B.lst B.rng (de_callB cr_len B.len boot_len (da_cons (dv 1) da_nil)))) (ds_one (ds_ret de_bl)) ds_nil)
  (ds_one (ds_ret (de_all (k := 0) (hr.mono (j := 1) (by decide)) hB hT rfl (gok_of (by rfl)) sc_is_grouping.nd B.all (di_rg1 B.rng (de_sub (de_callB cr_len B.len boot_len (da_cons (dv 0) da_nil)) de_int)) (fun _ _ _ _ _ _ _ _ _ hr' => pg_name sc_is_grouping.nd rfl (Or.inl rfl) (.inr rfl)) (fun _ _ _ _ _ _ _ _ _ hr' => (de_lt hr' (de_at (dv 0) (dv 3)) (de_at (dv 0) (de_add (dv 3) de_int)))))))))))
theorem c_is_grouping (B : Blt mg) (G_MOST_PEOPLE : ∃ t, mg "MOST_PEOPLE" = some (.int 6 t)) (C_is_lot : Cal P w K mg base "is_lot" 3 (spD cs m_is_lot 2)) (D : DnT K mg base cs "is_grouping" s11) : Cal P w K mg base "is_grouping" 5 (spD cs m_is_grouping 1) :=
  cal_tab (N := N_is_grouping) (ps := ["value"]) (n := 1) (b := b_is_grouping) (k := 4) D sc_is_grouping rfl (by decide) hb_is_grouping (p_is_grouping B G_MOST_PEOPLE C_is_lot)
/-! size_of -/
def q12 : PSigma fun s : Stmt => s = topS 12 := by
  refine ⟨?s, ?h⟩
  case h =>
    conv => rhs; whnf
def s12 : Stmt := q12.1
theorem e12 : s12 = topS 12 := q12.2
abbrev N_size_of : List Str := ["grouping", "lot"]
theorem sc_size_of : FnScope N_size_of ["grouping"] (defScope s12) := ⟨rfl, rfl, rfl, by decide +kernel, rfl, by decide +kernel, by decide +kernel⟩
theorem hb_size_of : ∀ (kV doc pm : Value) (an : Option Addr) (cdv ct : Value) (us : List Value), us.length = 1 → bindArgs (PySem.W.fnOf "size_of" "size_of" (defArgs s12) (defBody s12) (defScope s12) .none kV doc pm an cdv ct) ⟨us, []⟩ = pure ((["grouping"] : List Str).zip us) :=
  fun _ _ _ _ _ _ us hl => match us, hl with | [_], _ => rfl
def b_size_of : Fb := (bRet (fSum 1 (iSeq asTup (fVar 0)) (fS gLen (sCons (fVar 1) sNil))))
def m_size_of : List PyData → Option PyData := mk 1 2 b_size_of
theorem p_size_of (B : Blt mg) (f c Pt : Addr) (A : Around) (outer : List PySem.Env) (s : Shared) (H : Hp) (hT : Tab cs Pt) (hB : GxR.TabB base mg c Pt) (hr : Room 1 (cxD P w K mg base N_size_of "size_of" s12 f (.ref c) A outer s H).A) :
    PSs (cxD P w K mg base N_size_of "size_of" s12 f (.ref c) A outer s H) (defBody s12) (tDS cs b_size_of) :=
  (ds_one (ds_ret (de_sum (k := 0) (hr.mono (j := 1) (by decide)) hB hT rfl (gok_of (by rfl)) sc_size_of.nd B.sum (di_tup (dv 0)) (fun _ _ _ _ _ _ _ _ _ hr' => pg_name sc_size_of.nd rfl (Or.inl rfl) (.inr rfl)) (fun _ _ _ _ _ _ _ _ _ hr' => (de_callB cr_len B.len boot_len (da_cons (dv 1) da_nil))))))
theorem c_size_of (B : Blt mg) (D : DnT K mg base cs "size_of" s12) : Cal P w K mg base "size_of" 2 (spD cs m_size_of 1) :=
  cal_tab (N := N_size_of) (ps := ["grouping"]) (n := 1) (b := b_size_of) (k := 1) D sc_size_of rfl (by decide) hb_size_of (p_size_of B)
/-! need_grouping -/
def q13 : PSigma fun s : Stmt => s = topS 13 := by
  refine ⟨?s, ?h⟩
  case h =>
    conv => rhs; whnf
def s13 : Stmt := q13.1
theorem e13 : s13 = topS 13 := q13.2
abbrev N_need_grouping : List Str := ["grouping"]
theorem sc_need_grouping : FnScope N_need_grouping ["grouping"] (defScope s13) := ⟨rfl, rfl, rfl, by decide +kernel, rfl, by decide +kernel, by decide +kernel⟩
theorem hb_need_grouping : ∀ (kV doc pm : Value) (an : Option Addr) (cdv ct : Value) (us : List Value), us.length = 1 → bindArgs (PySem.W.fnOf "need_grouping" "need_grouping" (defArgs s13) (defBody s13) (defScope s13) .none kV doc pm an cdv ct) ⟨us, []⟩ = pure ((["grouping"] : List Str).zip us) :=
  fun _ _ _ _ _ _ us hl => match us, hl with | [_], _ => rfl
def b_need_grouping : Fb := (bIf (fNotT (fTru (fS (gN 1 m_is_grouping) (sCons (fVar 0) sNil)))) (fun _ => none) bNx)
def m_need_grouping : List PyData → Option PyData := mk 1 1 b_need_grouping
theorem p_need_grouping (B : Blt mg) (C_is_grouping : Cal P w K mg base "is_grouping" 5 (spD cs m_is_grouping 1)) (f : Addr) (cdv : Value) (A : Around) (outer : List PySem.Env) (s : Shared) (H : Hp) (hr : Room 5 (cxD P w K mg base N_need_grouping "need_grouping" s13 f cdv A outer s H).A) :
    PSs (cxD P w K mg base N_need_grouping "need_grouping" s13 f cdv A outer s H) (defBody s13) (tDS cs b_need_grouping) :=
  (ds_one (ds_if (dt_not (dt_val (de_cal C_is_grouping (hr.mono (j := 5) (by decide)) (da_cons (dv 0) da_nil)))) (ds_one ds_never) ds_nil))
theorem c_need_grouping (B : Blt mg) (C_is_grouping : Cal P w K mg base "is_grouping" 5 (spD cs m_is_grouping 1)) (D : Dn K mg "need_grouping" s13) : Cal P w K mg base "need_grouping" 6 (spD cs m_need_grouping 1) :=
  cal_dat (N := N_need_grouping) (ps := ["grouping"]) (n := 1) (b := b_need_grouping) (k := 5) D sc_need_grouping rfl (by decide) hb_need_grouping (p_need_grouping B C_is_grouping)
/-! all_groupings -/
def q14 : PSigma fun s : Stmt => s = topS 14 := by
  refine ⟨?s, ?h⟩
  case h =>
    conv => rhs; whnf
def s14 : Stmt := q14.1
theorem e14 : s14 = topS 14 := q14.2
abbrev N_all_groupings : List Str := ["size", "found", "person", "more", "grouping", "at", "lot"]
theorem sc_all_groupings : FnScope N_all_groupings ["size"] (defScope s14) := ⟨rfl, rfl, rfl, by decide +kernel, rfl, by decide +kernel, by decide +kernel⟩
theorem hb_all_groupings : ∀ (kV doc pm : Value) (an : Option Addr) (cdv ct : Value) (us : List Value), us.length = 1 → bindArgs (PySem.W.fnOf "all_groupings" "all_groupings" (defArgs s14) (defBody s14) (defScope s14) .none kV doc pm an cdv ct) ⟨us, []⟩ = pure ((["size"] : List Str).zip us) :=
  fun _ _ _ _ _ _ us hl => match us, hl with | [_], _ => rfl
def b_all_groupings : Fb := (bSeq (bSet 1 (fS gLst (sCons (fS gTup sNil) sNil))) (bSeq (bFor (iSeq asRg (fVar 0)) (gNm 2) (bSeq (bNew 3) (bSeq (bFor (iSeq asList (fVar 1)) (gNm 4) (bSeq (bFor (iEn (fVar 4)) (gPr 5 6) (bApp 3 (fS gTup (sStar (b2 gTo (fVar 4) (fVar 5)) (sCons (fS gTup (sStar (fVar 6) (sCons (fVar 2) sNil))) (sStar (b2 gFrom (fVar 4) (b2 gAdd (fVar 5) (fC (.int 1)))) sNil)))))) (bApp 3 (fS gTup (sStar (fVar 4) (sCons (fS gTup (sCons (fVar 2) sNil)) sNil)))))) (bFrz 3 (bSet 1 (fVar 3)))))) (bRet (fS gSorted (sCons (fVar 1) sNil)))))
def m_all_groupings : List PyData → Option PyData := mk 1 7 b_all_groupings
theorem p_all_groupings (B : Blt mg) (f : Addr) (cdv : Value) (A : Around) (outer : List PySem.Env) (s : Shared) (H : Hp) (hr : Room 0 (cxD P w K mg base N_all_groupings "all_groupings" s14 f cdv A outer s H).A) :
    PSs (cxD P w K mg base N_all_groupings "all_groupings" s14 f cdv A outer s H) (defBody s14) (tDS cs b_all_groupings) :=
  (ds_cons (ds_set 1 (de_lst (da_cons (de_tup da_nil) da_nil)) sc_all_groupings.nd)
  (ds_cons (ds_for (di_rg1 B.rng (dv 0)) (dg_name 2 sc_all_groupings.nd) (ds_cons (ds_new 3 sc_all_groupings.nd)
  (ds_cons (ds_for (di_list (dv 1)) (dg_name 4 sc_all_groupings.nd) (ds_cons (ds_for (di_enum B.enm (dv 4)) (dg_pair 5 6 sc_all_groupings.nd) (ds_one (ds_append 3 (de_tup (da_star (de_to (dv 4) (dv 5)) (da_cons (de_tup (da_star (dv 6) (da_cons (dv 2) da_nil))) (da_star (de_from (dv 4) (de_add (dv 5) de_int)) da_nil)))))))
  (ds_one (ds_append 3 (de_tup (da_star (dv 4) (da_cons (de_tup (da_cons (dv 2) da_nil)) da_nil)))))))
  (ds_one (ds_frz 3 (ds_set 1 (dv 3) sc_all_groupings.nd))))))
  (ds_one (ds_ret (de_callB (cr_sortedD hr) B.srt boot_sorted (da_cons (dv 1) da_nil))))))
theorem c_all_groupings (B : Blt mg) (D : Dn K mg "all_groupings" s14) : Cal P w K mg base "all_groupings" 1 (spD cs m_all_groupings 1) :=
  cal_dat (N := N_all_groupings) (ps := ["size"]) (n := 1) (b := b_all_groupings) (k := 0) D sc_all_groupings rfl (by decide) hb_all_groupings (p_all_groupings B)
/-! lot_with -/
def q15 : PSigma fun s : Stmt => s = topS 15 := by
  refine ⟨?s, ?h⟩
  case h =>
    conv => rhs; whnf
def s15 : Stmt := q15.1
theorem e15 : s15 = topS 15 := q15.2
abbrev N_lot_with : List Str := ["grouping", "person", "lot"]
theorem sc_lot_with : FnScope N_lot_with ["grouping", "person"] (defScope s15) := ⟨rfl, rfl, rfl, by decide +kernel, rfl, by decide +kernel, by decide +kernel⟩
theorem hb_lot_with : ∀ (kV doc pm : Value) (an : Option Addr) (cdv ct : Value) (us : List Value), us.length = 2 → bindArgs (PySem.W.fnOf "lot_with" "lot_with" (defArgs s15) (defBody s15) (defScope s15) .none kV doc pm an cdv ct) ⟨us, []⟩ = pure ((["grouping", "person"] : List Str).zip us) :=
  fun _ _ _ _ _ _ us hl => match us, hl with | [_, _], _ => rfl
def b_lot_with : Fb := (bRet (b2 gIx (fLc 2 (iSeq asTup (fVar 0)) (fBt (b2 gIn (fVar 1) (fVar 2))) (fVar 2)) (fC (.int 0))))
def m_lot_with : List PyData → Option PyData := mk 2 3 b_lot_with
theorem p_lot_with (B : Blt mg) (f : Addr) (cdv : Value) (A : Around) (outer : List PySem.Env) (s : Shared) (H : Hp) (hr : Room 0 (cxD P w K mg base N_lot_with "lot_with" s15 f cdv A outer s H).A) :
    PSs (cxD P w K mg base N_lot_with "lot_with" s15 f cdv A outer s H) (defBody s15) (tDS cs b_lot_with) :=
  (ds_one (ds_ret (de_at (de_lc [("lot", 2)] rfl sc_lot_with.nd (di_tup (dv 0)) (blk_of (by rfl)) (fun _ _ _ _ _ => pg_name sc_lot_with.nd rfl (Or.inl rfl) (.inr rfl)) (fun _ _ _ _ _ => (dts_one (dt_in hr (dv 1) (dv 2)))) (fun _ _ _ _ _ => (dv 2))) de_int)))
theorem c_lot_with (B : Blt mg) (D : Dn K mg "lot_with" s15) : Cal P w K mg base "lot_with" 1 (spD cs m_lot_with 2) :=
  cal_dat (N := N_lot_with) (ps := ["grouping", "person"]) (n := 2) (b := b_lot_with) (k := 0) D sc_lot_with rfl (by decide) hb_lot_with (p_lot_with B)
/-! joined -/
def q16 : PSigma fun s : Stmt => s = topS 16 := by
  refine ⟨?s, ?h⟩
  case h =>
    conv => rhs; whnf
def s16 : Stmt := q16.1
theorem e16 : s16 = topS 16 := q16.2
abbrev N_joined : List Str := ["grouping", "one", "other", "rest", "first", "second", "lot"]
theorem sc_joined : FnScope N_joined ["grouping", "one", "other"] (defScope s16) := ⟨rfl, rfl, rfl, by decide +kernel, rfl, by decide +kernel, by decide +kernel⟩
theorem hb_joined : ∀ (kV doc pm : Value) (an : Option Addr) (cdv ct : Value) (us : List Value), us.length = 3 → bindArgs (PySem.W.fnOf "joined" "joined" (defArgs s16) (defBody s16) (defScope s16) .none kV doc pm an cdv ct) ⟨us, []⟩ = pure ((["grouping", "one", "other"] : List Str).zip us) :=
  fun _ _ _ _ _ _ us hl => match us, hl with | [_, _, _], _ => rfl
def b_joined : Fb := (bSeq (bAsg (fS gTup (sCons (fS (gN 2 m_lot_with) (sCons (fVar 0) (sCons (fVar 1) sNil))) (sCons (fS (gN 2 m_lot_with) (sCons (fVar 0) (sCons (fVar 2) sNil))) sNil))) (gPr 4 5)) (bSeq (bIf (fBt (b2 gEq (fVar 4) (fVar 5))) (bRet (fVar 0)) bNx) (bSeq (bSet 3 (fLc 6 (iSeq asTup (fVar 0)) (fBt (b2 gNotIn (fVar 6) (fS gTup (sCons (fVar 4) (sCons (fVar 5) sNil))))) (fVar 6))) (bRet (fS gTuple (sCons (fS gSorted (sCons (fS gLst (sStar (fVar 3) (sCons (fS gTuple (sCons (fS gSorted (sCons (fS gLst (sStar (fVar 4) (sStar (fVar 5) sNil))) sNil)) sNil)) sNil))) sNil)) sNil))))))
def m_joined : List PyData → Option PyData := mk 3 7 b_joined
theorem p_joined (B : Blt mg) (C_lot_with : Cal P w K mg base "lot_with" 1 (spD cs m_lot_with 2)) (f : Addr) (cdv : Value) (A : Around) (outer : List PySem.Env) (s : Shared) (H : Hp) (hr : Room 1 (cxD P w K mg base N_joined "joined" s16 f cdv A outer s H).A) :
    PSs (cxD P w K mg base N_joined "joined" s16 f cdv A outer s H) (defBody s16) (tDS cs b_joined) :=
  (ds_cons (ds_asg (de_tup (da_cons (de_cal C_lot_with (hr.mono (j := 1) (by decide)) (da_cons (dv 0) (da_cons (dv 1) da_nil))) (da_cons (de_cal C_lot_with (hr.mono (j := 1) (by decide)) (da_cons (dv 0) (da_cons (dv 2) da_nil))) da_nil))) (dg_pair 4 5 sc_joined.nd))
  (ds_cons (ds_if (dt_eq hr (dv 4) (dv 5)) (ds_one (ds_ret (dv 0))) ds_nil)
  (ds_cons (ds_setLc 3 [("lot", 6)] rfl sc_joined.nd (di_tup (dv 0)) (blk_of (by rfl)) (fun _ _ _ _ _ => pg_name sc_joined.nd rfl (Or.inl rfl) (.inr rfl)) (fun _ _ _ _ _ => (dts_one (dt_notIn hr (dv 6) (de_tup (da_cons (dv 4) (da_cons (dv 5) da_nil)))))) (fun _ _ _ _ _ => (dv 6)) (sw_true rfl rfl rfl rfl))
  (ds_one (ds_ret (de_callTy cr_tuple B.tup boot_tuple (da_cons (de_callB (cr_sortedD hr) B.srt boot_sorted (da_cons (de_lst (da_star (dv 3) (da_cons (de_callTy cr_tuple B.tup boot_tuple (da_cons (de_callB (cr_sortedD hr) B.srt boot_sorted (da_cons (de_lst (da_star (dv 4) (da_star (dv 5) da_nil))) da_nil)) da_nil)) da_nil))) da_nil)) da_nil)))))))
theorem c_joined (B : Blt mg) (C_lot_with : Cal P w K mg base "lot_with" 1 (spD cs m_lot_with 2)) (D : Dn K mg "joined" s16) : Cal P w K mg base "joined" 2 (spD cs m_joined 3) :=
  cal_dat (N := N_joined) (ps := ["grouping", "one", "other"]) (n := 3) (b := b_joined) (k := 1) D sc_joined rfl (by decide) hb_joined (p_joined B C_lot_with)
/-! left -/
def q17 : PSigma fun s : Stmt => s = topS 17 := by
  refine ⟨?s, ?h⟩
  case h =>
    conv => rhs; whnf
def s17 : Stmt := q17.1
theorem e17 : s17 = topS 17 := q17.2
abbrev N_left : List Str := ["grouping", "person", "lot", "rest", "others", "other", "one"]
theorem sc_left : FnScope N_left ["grouping", "person"] (defScope s17) := ⟨rfl, rfl, rfl, by decide +kernel, rfl, by decide +kernel, by decide +kernel⟩
theorem hb_left : ∀ (kV doc pm : Value) (an : Option Addr) (cdv ct : Value) (us : List Value), us.length = 2 → bindArgs (PySem.W.fnOf "left" "left" (defArgs s17) (defBody s17) (defScope s17) .none kV doc pm an cdv ct) ⟨us, []⟩ = pure ((["grouping", "person"] : List Str).zip us) :=
  fun _ _ _ _ _ _ us hl => match us, hl with | [_, _], _ => rfl
def b_left : Fb := (bSeq (bSet 2 (fS (gN 2 m_lot_with) (sCons (fVar 0) (sCons (fVar 1) sNil)))) (bSeq (bSet 3 (fLc 5 (iSeq asTup (fVar 0)) (fBt (b2 gNe (fVar 5) (fVar 2))) (fVar 5))) (bSeq (bSet 4 (fS gTuple (sCons (fLc 6 (iSeq asTup (fVar 2)) (fBt (b2 gNe (fVar 6) (fVar 1))) (fVar 6)) sNil))) (bRet (fS gTuple (sCons (fS gSorted (sCons (fS gLst (sStar (fVar 3) (sStar (fIf (fTru (fVar 4)) (fS gLst (sCons (fVar 4) sNil)) (fS gLst sNil)) (sCons (fS gTup (sCons (fVar 1) sNil)) sNil)))) sNil)) sNil))))))
def m_left : List PyData → Option PyData := mk 2 7 b_left
theorem p_left (B : Blt mg) (C_lot_with : Cal P w K mg base "lot_with" 1 (spD cs m_lot_with 2)) (f : Addr) (cdv : Value) (A : Around) (outer : List PySem.Env) (s : Shared) (H : Hp) (hr : Room 1 (cxD P w K mg base N_left "left" s17 f cdv A outer s H).A) :
    PSs (cxD P w K mg base N_left "left" s17 f cdv A outer s H) (defBody s17) (tDS cs b_left) :=
  (ds_cons (ds_set 2 (de_cal C_lot_with (hr.mono (j := 1) (by decide)) (da_cons (dv 0) (da_cons (dv 1) da_nil))) sc_left.nd)
  (ds_cons (ds_setLc 3 [("other", 5)] rfl sc_left.nd (di_tup (dv 0)) (blk_of (by rfl)) (fun _ _ _ _ _ => pg_name sc_left.nd rfl (Or.inl rfl) (.inr rfl)) (fun _ _ _ _ _ => (dts_one (dt_ne hr (dv 5) (dv 2)))) (fun _ _ _ _ _ => (dv 5)) (sw_true rfl rfl rfl rfl))
  (ds_cons (ds_set 4 (de_callTy cr_tuple B.tup boot_tuple (da_cons (de_lc [("one", 6)] rfl sc_left.nd (di_tup (dv 2)) (blk_of (by rfl)) (fun _ _ _ _ _ => pg_name sc_left.nd rfl (Or.inl rfl) (.inr rfl)) (fun _ _ _ _ _ => (dts_one (dt_ne hr (dv 6) (dv 1)))) (fun _ _ _ _ _ => (dv 6))) da_nil)) sc_left.nd)
  (ds_one (ds_ret (de_callTy cr_tuple B.tup boot_tuple (da_cons (de_callB (cr_sortedD hr) B.srt boot_sorted (da_cons (de_lst (da_star (dv 3) (da_star (de_if (dt_val (dv 4)) (de_lst (da_cons (dv 4) da_nil)) (de_lst da_nil)) (da_cons (de_tup (da_cons (dv 1) da_nil)) da_nil)))) da_nil)) da_nil)))))))
theorem c_left (B : Blt mg) (C_lot_with : Cal P w K mg base "lot_with" 1 (spD cs m_lot_with 2)) (D : Dn K mg "left" s17) : Cal P w K mg base "left" 2 (spD cs m_left 2) :=
  cal_dat (N := N_left) (ps := ["grouping", "person"]) (n := 2) (b := b_left) (k := 1) D sc_left rfl (by decide) hb_left (p_left B C_lot_with)
/-! stepped -/
def q18 : PSigma fun s : Stmt => s = topS 18 := by
  refine ⟨?s, ?h⟩
  case h =>
    conv => rhs; whnf
def s18 : Stmt := q18.1
theorem e18 : s18 = topS 18 := q18.2
abbrev N_stepped : List Str := ["grouping", "step"]
theorem sc_stepped : FnScope N_stepped ["grouping", "step"] (defScope s18) := ⟨rfl, rfl, rfl, by decide +kernel, rfl, by decide +kernel, by decide +kernel⟩
theorem hb_stepped : ∀ (kV doc pm : Value) (an : Option Addr) (cdv ct : Value) (us : List Value), us.length = 2 → bindArgs (PySem.W.fnOf "stepped" "stepped" (defArgs s18) (defBody s18) (defScope s18) .none kV doc pm an cdv ct) ⟨us, []⟩ = pure ((["grouping", "step"] : List Str).zip us) :=
  fun _ _ _ _ _ _ us hl => match us, hl with | [_, _], _ => rfl
def b_stepped : Fb := (bRet (fIf (fBt (b2 gEq (fS gLen (sCons (fVar 1) sNil)) (fC (.int 1)))) (fS (gN 2 m_left) (sCons (fVar 0) (sCons (b2 gIx (fVar 1) (fC (.int 0))) sNil))) (fS (gN 3 m_joined) (sCons (fVar 0) (sCons (b2 gIx (fVar 1) (fC (.int 0))) (sCons (b2 gIx (fVar 1) (fC (.int 1))) sNil))))))
def m_stepped : List PyData → Option PyData := mk 2 2 b_stepped
theorem p_stepped (B : Blt mg) (C_left : Cal P w K mg base "left" 2 (spD cs m_left 2)) (C_joined : Cal P w K mg base "joined" 2 (spD cs m_joined 3)) (f : Addr) (cdv : Value) (A : Around) (outer : List PySem.Env) (s : Shared) (H : Hp) (hr : Room 2 (cxD P w K mg base N_stepped "stepped" s18 f cdv A outer s H).A) :
    PSs (cxD P w K mg base N_stepped "stepped" s18 f cdv A outer s H) (defBody s18) (tDS cs b_stepped) :=
  (ds_one (ds_ret (de_if (dt_eq hr (de_callB cr_len B.len boot_len (da_cons (dv 1) da_nil)) de_int) (de_cal C_left (hr.mono (j := 2) (by decide)) (da_cons (dv 0) (da_cons (de_at (dv 1) de_int) da_nil))) (de_cal C_joined (hr.mono (j := 2) (by decide)) (da_cons (dv 0) (da_cons (de_at (dv 1) de_int) (da_cons (de_at (dv 1) de_int) da_nil)))))))
theorem c_stepped (B : Blt mg) (C_left : Cal P w K mg base "left" 2 (spD cs m_left 2)) (C_joined : Cal P w K mg base "joined" 2 (spD cs m_joined 3)) (D : Dn K mg "stepped" s18) : Cal P w K mg base "stepped" 3 (spD cs m_stepped 2) :=
  cal_dat (N := N_stepped) (ps := ["grouping", "step"]) (n := 2) (b := b_stepped) (k := 2) D sc_stepped rfl (by decide) hb_stepped (p_stepped B C_left C_joined)
/-! all_steps -/
def q19 : PSigma fun s : Stmt => s = topS 19 := by
  refine ⟨?s, ?h⟩
  case h =>
    conv => rhs; whnf
def s19 : Stmt := q19.1
theorem e19 : s19 = topS 19 := q19.2
abbrev N_all_steps : List Str := ["size", "found", "one", "person", "other"]
theorem sc_all_steps : FnScope N_all_steps ["size"] (defScope s19) := ⟨rfl, rfl, rfl, by decide +kernel, rfl, by decide +kernel, by decide +kernel⟩
theorem hb_all_steps : ∀ (kV doc pm : Value) (an : Option Addr) (cdv ct : Value) (us : List Value), us.length = 1 → bindArgs (PySem.W.fnOf "all_steps" "all_steps" (defArgs s19) (defBody s19) (defScope s19) .none kV doc pm an cdv ct) ⟨us, []⟩ = pure ((["size"] : List Str).zip us) :=
  fun _ _ _ _ _ _ us hl => match us, hl with | [_], _ => rfl
def b_all_steps : Fb := (bSeq (bSet 1 (fLc 3 (iSeq asRg (fVar 0)) tYesD (fS gTup (sCons (fVar 3) sNil)))) (bSeq (bFor (iSeq asRg (fVar 0)) (gNm 2) (bSet 1 (b2 gAdd (fVar 1) (fLc 4 (iRg2 (b2 gAdd (fVar 2) (fC (.int 1))) (fVar 0)) tYesD (fS gTup (sCons (fVar 2) (sCons (fVar 4) sNil))))))) (bRet (fS gSorted (sCons (fVar 1) sNil)))))
def m_all_steps : List PyData → Option PyData := mk 1 5 b_all_steps
theorem p_all_steps (B : Blt mg) (f : Addr) (cdv : Value) (A : Around) (outer : List PySem.Env) (s : Shared) (H : Hp) (hr : Room 0 (cxD P w K mg base N_all_steps "all_steps" s19 f cdv A outer s H).A) :
    PSs (cxD P w K mg base N_all_steps "all_steps" s19 f cdv A outer s H) (defBody s19) (tDS cs b_all_steps) :=
  (ds_cons (ds_setLc 1 [("person", 3)] rfl sc_all_steps.nd (di_rg1 B.rng (dv 0)) (blk_of (by rfl)) (fun _ _ _ _ _ => pg_name sc_all_steps.nd rfl (Or.inl rfl) (.inr rfl)) (fun _ _ _ _ _ => dts_nil) (fun _ _ _ _ _ => (de_tup (da_cons (dv 3) da_nil))) (sw_true rfl rfl rfl rfl))
  (ds_cons (ds_for (di_rg1 B.rng (dv 0)) (dg_name 2 sc_all_steps.nd) (ds_one (ds_set 1 (de_add (dv 1) (de_lc [("other", 4)] rfl sc_all_steps.nd (di_rg2 B.rng (de_add (dv 2) de_int) (dv 0)) (blk_of (by rfl)) (fun _ _ _ _ _ => pg_name sc_all_steps.nd rfl (Or.inl rfl) (.inr rfl)) (fun _ _ _ _ _ => dts_nil) (fun _ _ _ _ _ => (de_tup (da_cons (dv 2) (da_cons (dv 4) da_nil)))))) sc_all_steps.nd)))
  (ds_one (ds_ret (de_callB (cr_sortedD hr) B.srt boot_sorted (da_cons (dv 1) da_nil))))))
theorem c_all_steps (B : Blt mg) (D : Dn K mg "all_steps" s19) : Cal P w K mg base "all_steps" 1 (spD cs m_all_steps 1) :=
  cal_dat (N := N_all_steps) (ps := ["size"]) (n := 1) (b := b_all_steps) (k := 0) D sc_all_steps rfl (by decide) hb_all_steps (p_all_steps B)
end
end DL

/-! Dm2: the defs of likings.py. -/
namespace DL
open PySem PySem.Spec PyProof.Rows L2
section
variable {P : Program} {w : World} {K : PySem.W.Frag} {mg : Str → Option Value} {base : Heap} {cs : Cs}
/-! pairs_of -/
def q22 : PSigma fun s : Stmt => s = topS 22 := by
  refine ⟨?s, ?h⟩
  case h =>
    conv => rhs; whnf
def s22 : Stmt := q22.1
theorem e22 : s22 = topS 22 := q22.2
abbrev N_pairs_of : List Str := ["size", "found", "one", "other"]
theorem sc_pairs_of : FnScope N_pairs_of ["size"] (defScope s22) := ⟨rfl, rfl, rfl, by decide +kernel, rfl, by decide +kernel, by decide +kernel⟩
theorem hb_pairs_of : ∀ (kV doc pm : Value) (an : Option Addr) (cdv ct : Value) (us : List Value), us.length = 1 → bindArgs (PySem.W.fnOf "pairs_of" "pairs_of" (defArgs s22) (defBody s22) (defScope s22) .none kV doc pm an cdv ct) ⟨us, []⟩ = pure ((["size"] : List Str).zip us) :=
  fun _ _ _ _ _ _ us hl => match us, hl with | [_], _ => rfl
def b_pairs_of : Fb := (bSeq (bSet 1 (fS gLst sNil)) (bSeq (bFor (iSeq asRg (fVar 0)) (gNm 2) (bSet 1 (b2 gAdd (fVar 1) (fLc 3 (iRg2 (b2 gAdd (fVar 2) (fC (.int 1))) (fVar 0)) tYesD (fS gTup (sCons (fVar 2) (sCons (fVar 3) sNil))))))) (bRet (fVar 1))))
def m_pairs_of : List PyData → Option PyData := mk 1 4 b_pairs_of
theorem p_pairs_of (B : Blt mg) (f : Addr) (cdv : Value) (A : Around) (outer : List PySem.Env) (s : Shared) (H : Hp) (hr : Room 0 (cxD P w K mg base N_pairs_of "pairs_of" s22 f cdv A outer s H).A) :
    PSs (cxD P w K mg base N_pairs_of "pairs_of" s22 f cdv A outer s H) (defBody s22) (tDS cs b_pairs_of) :=
  (ds_cons (ds_set 1 (de_lst da_nil) sc_pairs_of.nd)
  (ds_cons (ds_for (di_rg1 B.rng (dv 0)) (dg_name 2 sc_pairs_of.nd) (ds_one (ds_set 1 (de_add (dv 1) (de_lc [("other", 3)] rfl sc_pairs_of.nd (di_rg2 B.rng (de_add (dv 2) de_int) (dv 0)) (blk_of (by rfl)) (fun _ _ _ _ _ => pg_name sc_pairs_of.nd rfl (Or.inl rfl) (.inr rfl)) (fun _ _ _ _ _ => dts_nil) (fun _ _ _ _ _ => (de_tup (da_cons (dv 2) (da_cons (dv 3) da_nil)))))) sc_pairs_of.nd)))
  (ds_one (ds_ret (dv 1)))))
theorem c_pairs_of (B : Blt mg) (D : Dn K mg "pairs_of" s22) : Cal P w K mg base "pairs_of" 1 (spD cs m_pairs_of 1) :=
  cal_dat (N := N_pairs_of) (ps := ["size"]) (n := 1) (b := b_pairs_of) (k := 0) D sc_pairs_of rfl (by decide) hb_pairs_of (p_pairs_of B)
/-! are_likings -/
def q23 : PSigma fun s : Stmt => s = topS 23 := by
  refine ⟨?s, ?h⟩
  case h =>
    conv => rhs; whnf
def s23 : Stmt := q23.1
theorem e23 : s23 = topS 23 := q23.2
abbrev N_are_likings : List Str := ["size", "value", "one"]
theorem sc_are_likings : FnScope N_are_likings ["size", "value"] (defScope s23) := ⟨rfl, rfl, rfl, by decide +kernel, rfl, by decide +kernel, by decide +kernel⟩
theorem hb_are_likings : ∀ (kV doc pm : Value) (an : Option Addr) (cdv ct : Value) (us : List Value), us.length = 2 → bindArgs (PySem.W.fnOf "are_likings" "are_likings" (defArgs s23) (defBody s23) (defScope s23) .none kV doc pm an cdv ct) ⟨us, []⟩ = pure ((["size", "value"] : List Str).zip us) :=
  fun _ _ _ _ _ _ us hl => match us, hl with | [_, _], _ => rfl
def b_are_likings : Fb := (bSeq (bIf (fOrT (fNotT (fTru (f1 (uIs PyData.isTuple) (fVar 1)))) (fBt (b2 gNe (fS gLen (sCons (fVar 1) sNil)) (b2 gDiv (b2 gMul (fVar 0) (b2 gSub (fVar 0) (fC (.int 1)))) (fC (.int 2)))))) (bRet (fC (.bool false))) bNx) (bRet (fAll 2 (iSeq asTup (fVar 1)) (fS (gN 3 m_is_in) (sCons (fVar 2) (sCons (b2 gSub (fC (.int 0)) (fC (.int 100))) (sCons (fC (.int 100)) sNil)))))))
def m_are_likings : List PyData → Option PyData := mk 2 3 b_are_likings
theorem p_are_likings (B : Blt mg) (G_MOST_LIKING : ∃ t, mg "MOST_LIKING" = some (.int 100 t)) (C_is_in : Cal P w K mg base "is_in" 1 (spD cs m_is_in 3)) (f c Pt : Addr) (A : Around) (outer : List PySem.Env) (s : Shared) (H : Hp) (hT : Tab cs Pt) (hB : GxR.TabB base mg c Pt) (hr : Room 2 (cxD P w K mg base N_are_likings "are_likings" s23 f (.ref c) A outer s H).A) :
    PSs (cxD P w K mg base N_are_likings "are_likings" s23 f (.ref c) A outer s H) (defBody s23) (tDS cs b_are_likings) :=
  (ds_cons (ds_if (PW.pt (dw_or (dt_not (dt_val (de_isi isiB_tuple B.isi B.tup boot_tuple (dv 1)))) (dw_or1 (dt_ne hr (de_callB cr_len B.len boot_len (da_cons (dv 1) da_nil)) (de_fdiv (de_mul (dv 0) (de_sub (dv 0) de_int)) de_int))))) (ds_one (ds_ret de_bl)) ds_nil)
  (ds_one (ds_ret (de_all (k := 1) (hr.mono (j := 2) (by decide)) hB hT rfl (gok_of (by rfl)) sc_are_likings.nd B.all (di_tup (dv 1)) (fun _ _ _ _ _ _ _ _ _ hr' => pg_name sc_are_likings.nd rfl (Or.inl rfl) (.inr rfl)) (fun _ _ _ _ _ _ _ _ _ hr' => (de_cal C_is_in (hr'.mono (j := 1) (by decide)) (da_cons (dv 2) (da_cons (de_sub de_int (de_gi 100 G_MOST_LIKING)) (da_cons (de_gi 100 G_MOST_LIKING) da_nil)))))))))
theorem c_are_likings (B : Blt mg) (G_MOST_LIKING : ∃ t, mg "MOST_LIKING" = some (.int 100 t)) (C_is_in : Cal P w K mg base "is_in" 1 (spD cs m_is_in 3)) (D : DnT K mg base cs "are_likings" s23) : Cal P w K mg base "are_likings" 3 (spD cs m_are_likings 2) :=
  cal_tab (N := N_are_likings) (ps := ["size", "value"]) (n := 2) (b := b_are_likings) (k := 2) D sc_are_likings rfl (by decide) hb_are_likings (p_are_likings B G_MOST_LIKING C_is_in)
/-! need_likings -/
def q24 : PSigma fun s : Stmt => s = topS 24 := by
  refine ⟨?s, ?h⟩
  case h =>
    conv => rhs; whnf
def s24 : Stmt := q24.1
theorem e24 : s24 = topS 24 := q24.2
abbrev N_need_likings : List Str := ["size", "likings"]
theorem sc_need_likings : FnScope N_need_likings ["size", "likings"] (defScope s24) := ⟨rfl, rfl, rfl, by decide +kernel, rfl, by decide +kernel, by decide +kernel⟩
theorem hb_need_likings : ∀ (kV doc pm : Value) (an : Option Addr) (cdv ct : Value) (us : List Value), us.length = 2 → bindArgs (PySem.W.fnOf "need_likings" "need_likings" (defArgs s24) (defBody s24) (defScope s24) .none kV doc pm an cdv ct) ⟨us, []⟩ = pure ((["size", "likings"] : List Str).zip us) :=
  fun _ _ _ _ _ _ us hl => match us, hl with | [_, _], _ => rfl
def b_need_likings : Fb := (bIf (fNotT (fTru (fS (gN 2 m_are_likings) (sCons (fVar 0) (sCons (fVar 1) sNil))))) (fun _ => none) bNx)
def m_need_likings : List PyData → Option PyData := mk 2 2 b_need_likings
theorem p_need_likings (B : Blt mg) (C_are_likings : Cal P w K mg base "are_likings" 3 (spD cs m_are_likings 2)) (f : Addr) (cdv : Value) (A : Around) (outer : List PySem.Env) (s : Shared) (H : Hp) (hr : Room 3 (cxD P w K mg base N_need_likings "need_likings" s24 f cdv A outer s H).A) :
    PSs (cxD P w K mg base N_need_likings "need_likings" s24 f cdv A outer s H) (defBody s24) (tDS cs b_need_likings) :=
  (ds_one (ds_if (dt_not (dt_val (de_cal C_are_likings (hr.mono (j := 3) (by decide)) (da_cons (dv 0) (da_cons (dv 1) da_nil))))) (ds_one ds_never) ds_nil))
theorem c_need_likings (B : Blt mg) (C_are_likings : Cal P w K mg base "are_likings" 3 (spD cs m_are_likings 2)) (D : Dn K mg "need_likings" s24) : Cal P w K mg base "need_likings" 4 (spD cs m_need_likings 2) :=
  cal_dat (N := N_need_likings) (ps := ["size", "likings"]) (n := 2) (b := b_need_likings) (k := 3) D sc_need_likings rfl (by decide) hb_need_likings (p_need_likings B C_are_likings)
/-! worth_of -/
def q25 : PSigma fun s : Stmt => s = topS 25 := by
  refine ⟨?s, ?h⟩
  case h =>
    conv => rhs; whnf
def s25 : Stmt := q25.1
theorem e25 : s25 = topS 25 := q25.2
abbrev N_worth_of : List Str := ["grouping", "likings", "found", "pair", "liking", "lot"]
theorem sc_worth_of : FnScope N_worth_of ["grouping", "likings"] (defScope s25) := ⟨rfl, rfl, rfl, by decide +kernel, rfl, by decide +kernel, by decide +kernel⟩
theorem hb_worth_of : ∀ (kV doc pm : Value) (an : Option Addr) (cdv ct : Value) (us : List Value), us.length = 2 → bindArgs (PySem.W.fnOf "worth_of" "worth_of" (defArgs s25) (defBody s25) (defScope s25) .none kV doc pm an cdv ct) ⟨us, []⟩ = pure ((["grouping", "likings"] : List Str).zip us) :=
  fun _ _ _ _ _ _ us hl => match us, hl with | [_, _], _ => rfl
def b_worth_of : Fb := (bSeq (bSet 2 (fC (.int 0))) (bSeq (bFor (iZp (fS (gN 1 m_pairs_of) (sCons (fS (gN 1 m_size_of) (sCons (fVar 0) sNil)) sNil)) (fVar 1)) (gPr 3 4) (bIf (fTru (fAny 5 (iSeq asTup (fVar 0)) (fAnd (b2 gIn (b2 gIx (fVar 3) (fC (.int 0))) (fVar 5)) (b2 gIn (b2 gIx (fVar 3) (fC (.int 1))) (fVar 5))))) (bSet 2 (b2 gAdd (fVar 2) (fVar 4))) bNx)) (bRet (fVar 2))))
def m_worth_of : List PyData → Option PyData := mk 2 6 b_worth_of
theorem p_worth_of (B : Blt mg) (C_size_of : Cal P w K mg base "size_of" 2 (spD cs m_size_of 1)) (C_pairs_of : Cal P w K mg base "pairs_of" 1 (spD cs m_pairs_of 1)) (f c Pt : Addr) (A : Around) (outer : List PySem.Env) (s : Shared) (H : Hp) (hT : Tab cs Pt) (hB : GxR.TabB base mg c Pt) (hr : Room 2 (cxD P w K mg base N_worth_of "worth_of" s25 f (.ref c) A outer s H).A) :
    PSs (cxD P w K mg base N_worth_of "worth_of" s25 f (.ref c) A outer s H) (defBody s25) (tDS cs b_worth_of) :=
  (ds_cons (ds_set 2 de_int sc_worth_of.nd)
  (ds_cons (ds_for (di_zip B.zip (de_cal C_pairs_of (hr.mono (j := 1) (by decide)) (da_cons (de_cal C_size_of (hr.mono (j := 2) (by decide)) (da_cons (dv 0) da_nil)) da_nil)) (dv 1)) (dg_pair 3 4 sc_worth_of.nd) (ds_one (ds_if (dt_val (de_any (k := 0) (hr.mono (j := 1) (by decide)) hB hT rfl (gok_of (by rfl)) sc_worth_of.nd B.any (di_tup (dv 0)) (fun _ _ _ _ _ _ _ _ _ hr' => pg_name sc_worth_of.nd rfl (Or.inl rfl) (.inr rfl)) (fun _ _ _ _ _ _ _ _ _ hr' => (de_and (de_in hr' (de_at (dv 3) de_int) (dv 5)) (de_one (de_in hr' (de_at (dv 3) de_int) (dv 5))))))) (ds_one (ds_set 2 (de_add (dv 2) (dv 4)) sc_worth_of.nd)) ds_nil)))
  (ds_one (ds_ret (dv 2)))))
theorem c_worth_of (B : Blt mg) (C_size_of : Cal P w K mg base "size_of" 2 (spD cs m_size_of 1)) (C_pairs_of : Cal P w K mg base "pairs_of" 1 (spD cs m_pairs_of 1)) (D : DnT K mg base cs "worth_of" s25) : Cal P w K mg base "worth_of" 3 (spD cs m_worth_of 2) :=
  cal_tab (N := N_worth_of) (ps := ["grouping", "likings"]) (n := 2) (b := b_worth_of) (k := 2) D sc_worth_of rfl (by decide) hb_worth_of (p_worth_of B C_size_of C_pairs_of)
/-! worth -/
def q26 : PSigma fun s : Stmt => s = topS 26 := by
  refine ⟨?s, ?h⟩
  case h =>
    conv => rhs; whnf
def s26 : Stmt := q26.1
theorem e26 : s26 = topS 26 := q26.2
abbrev N_worth : List Str := ["grouping", "likings"]
theorem sc_worth : FnScope N_worth ["grouping", "likings"] (defScope s26) := ⟨rfl, rfl, rfl, by decide +kernel, rfl, by decide +kernel, by decide +kernel⟩
theorem hb_worth : ∀ (kV doc pm : Value) (an : Option Addr) (cdv ct : Value) (us : List Value), us.length = 2 → bindArgs (PySem.W.fnOf "worth" "worth" (defArgs s26) (defBody s26) (defScope s26) .none kV doc pm an cdv ct) ⟨us, []⟩ = pure ((["grouping", "likings"] : List Str).zip us) :=
  fun _ _ _ _ _ _ us hl => match us, hl with | [_, _], _ => rfl
def b_worth : Fb := (bSeq (bDo (fS (gN 1 m_need_grouping) (sCons (fVar 0) sNil))) (bSeq (bDo (fS (gN 2 m_need_likings) (sCons (fS (gN 1 m_size_of) (sCons (fVar 0) sNil)) (sCons (fVar 1) sNil)))) (bRet (fS (gN 2 m_worth_of) (sCons (fVar 0) (sCons (fVar 1) sNil))))))
def m_worth : List PyData → Option PyData := mk 2 2 b_worth
theorem p_worth (B : Blt mg) (C_need_grouping : Cal P w K mg base "need_grouping" 6 (spD cs m_need_grouping 1)) (C_size_of : Cal P w K mg base "size_of" 2 (spD cs m_size_of 1)) (C_need_likings : Cal P w K mg base "need_likings" 4 (spD cs m_need_likings 2)) (C_worth_of : Cal P w K mg base "worth_of" 3 (spD cs m_worth_of 2)) (f : Addr) (cdv : Value) (A : Around) (outer : List PySem.Env) (s : Shared) (H : Hp) (hr : Room 6 (cxD P w K mg base N_worth "worth" s26 f cdv A outer s H).A) :
    PSs (cxD P w K mg base N_worth "worth" s26 f cdv A outer s H) (defBody s26) (tDS cs b_worth) :=
  (ds_cons (ds_do (de_cal C_need_grouping (hr.mono (j := 6) (by decide)) (da_cons (dv 0) da_nil)))
  (ds_cons (ds_do (de_cal C_need_likings (hr.mono (j := 4) (by decide)) (da_cons (de_cal C_size_of (hr.mono (j := 2) (by decide)) (da_cons (dv 0) da_nil)) (da_cons (dv 1) da_nil))))
  (ds_one (ds_ret (de_cal C_worth_of (hr.mono (j := 3) (by decide)) (da_cons (dv 0) (da_cons (dv 1) da_nil)))))))
theorem c_worth (B : Blt mg) (C_need_grouping : Cal P w K mg base "need_grouping" 6 (spD cs m_need_grouping 1)) (C_size_of : Cal P w K mg base "size_of" 2 (spD cs m_size_of 1)) (C_need_likings : Cal P w K mg base "need_likings" 4 (spD cs m_need_likings 2)) (C_worth_of : Cal P w K mg base "worth_of" 3 (spD cs m_worth_of 2)) (D : Dn K mg "worth" s26) : Cal P w K mg base "worth" 7 (spD cs m_worth 2) :=
  cal_dat (N := N_worth) (ps := ["grouping", "likings"]) (n := 2) (b := b_worth) (k := 6) D sc_worth rfl (by decide) hb_worth (p_worth B C_need_grouping C_size_of C_need_likings C_worth_of)
/-! need_liked -/
def q27 : PSigma fun s : Stmt => s = topS 27 := by
  refine ⟨?s, ?h⟩
  case h =>
    conv => rhs; whnf
def s27 : Stmt := q27.1
theorem e27 : s27 = topS 27 := q27.2
abbrev N_need_liked : List Str := ["size", "likings"]
theorem sc_need_liked : FnScope N_need_liked ["size", "likings"] (defScope s27) := ⟨rfl, rfl, rfl, by decide +kernel, rfl, by decide +kernel, by decide +kernel⟩
theorem hb_need_liked : ∀ (kV doc pm : Value) (an : Option Addr) (cdv ct : Value) (us : List Value), us.length = 2 → bindArgs (PySem.W.fnOf "need_liked" "need_liked" (defArgs s27) (defBody s27) (defScope s27) .none kV doc pm an cdv ct) ⟨us, []⟩ = pure ((["size", "likings"] : List Str).zip us) :=
  fun _ _ _ _ _ _ us hl => match us, hl with | [_, _], _ => rfl
def b_need_liked : Fb := (bSeq (bDo (fS (gN 1 m_need_size) (sCons (fVar 0) sNil))) (bDo (fS (gN 2 m_need_likings) (sCons (fVar 0) (sCons (fVar 1) sNil)))))
def m_need_liked : List PyData → Option PyData := mk 2 2 b_need_liked
theorem p_need_liked (B : Blt mg) (C_need_size : Cal P w K mg base "need_size" 2 (spD cs m_need_size 1)) (C_need_likings : Cal P w K mg base "need_likings" 4 (spD cs m_need_likings 2)) (f : Addr) (cdv : Value) (A : Around) (outer : List PySem.Env) (s : Shared) (H : Hp) (hr : Room 4 (cxD P w K mg base N_need_liked "need_liked" s27 f cdv A outer s H).A) :
    PSs (cxD P w K mg base N_need_liked "need_liked" s27 f cdv A outer s H) (defBody s27) (tDS cs b_need_liked) :=
  (ds_cons (ds_do (de_cal C_need_size (hr.mono (j := 2) (by decide)) (da_cons (dv 0) da_nil)))
  (ds_one (ds_do (de_cal C_need_likings (hr.mono (j := 4) (by decide)) (da_cons (dv 0) (da_cons (dv 1) da_nil))))))
theorem c_need_liked (B : Blt mg) (C_need_size : Cal P w K mg base "need_size" 2 (spD cs m_need_size 1)) (C_need_likings : Cal P w K mg base "need_likings" 4 (spD cs m_need_likings 2)) (D : Dn K mg "need_liked" s27) : Cal P w K mg base "need_liked" 5 (spD cs m_need_liked 2) :=
  cal_dat (N := N_need_liked) (ps := ["size", "likings"]) (n := 2) (b := b_need_liked) (k := 4) D sc_need_liked rfl (by decide) hb_need_liked (p_need_liked B C_need_size C_need_likings)
/-! best_of -/
def q28 : PSigma fun s : Stmt => s = topS 28 := by
  refine ⟨?s, ?h⟩
  case h =>
    conv => rhs; whnf
def s28 : Stmt := q28.1
theorem e28 : s28 = topS 28 := q28.2
abbrev N_best_of : List Str := ["size", "likings", "one"]
theorem sc_best_of : FnScope N_best_of ["size", "likings"] (defScope s28) := ⟨rfl, rfl, rfl, by decide +kernel, rfl, by decide +kernel, by decide +kernel⟩
theorem hb_best_of : ∀ (kV doc pm : Value) (an : Option Addr) (cdv ct : Value) (us : List Value), us.length = 2 → bindArgs (PySem.W.fnOf "best_of" "best_of" (defArgs s28) (defBody s28) (defScope s28) .none kV doc pm an cdv ct) ⟨us, []⟩ = pure ((["size", "likings"] : List Str).zip us) :=
  fun _ _ _ _ _ _ us hl => match us, hl with | [_, _], _ => rfl
def b_best_of : Fb := (bRet (fS gMax (sCons (fLc 2 (iSeq asList (fS (gN 1 m_all_groupings) (sCons (fVar 0) sNil))) tYesD (fS gTup (sCons (fS (gN 2 m_worth_of) (sCons (fVar 2) (sCons (fVar 1) sNil))) (sCons (fVar 2) sNil)))) sNil)))
def m_best_of : List PyData → Option PyData := mk 2 3 b_best_of
theorem p_best_of (B : Blt mg) (C_all_groupings : Cal P w K mg base "all_groupings" 1 (spD cs m_all_groupings 1)) (C_worth_of : Cal P w K mg base "worth_of" 3 (spD cs m_worth_of 2)) (f : Addr) (cdv : Value) (A : Around) (outer : List PySem.Env) (s : Shared) (H : Hp) (hr : Room 3 (cxD P w K mg base N_best_of "best_of" s28 f cdv A outer s H).A) :
    PSs (cxD P w K mg base N_best_of "best_of" s28 f cdv A outer s H) (defBody s28) (tDS cs b_best_of) :=
  (ds_one (ds_ret (de_callB (cr_maxD hr) B.max boot_max (da_cons (de_lc [("one", 2)] rfl sc_best_of.nd (di_list (de_cal C_all_groupings (hr.mono (j := 1) (by decide)) (da_cons (dv 0) da_nil))) (blk_of (by rfl)) (fun _ _ _ _ _ => pg_name sc_best_of.nd rfl (Or.inl rfl) (.inr rfl)) (fun _ _ _ _ _ => dts_nil) (fun _ _ _ _ _ => (de_tup (da_cons (de_cal C_worth_of (hr.mono (j := 3) (by decide)) (da_cons (dv 2) (da_cons (dv 1) da_nil))) (da_cons (dv 2) da_nil))))) da_nil))))
theorem c_best_of (B : Blt mg) (C_all_groupings : Cal P w K mg base "all_groupings" 1 (spD cs m_all_groupings 1)) (C_worth_of : Cal P w K mg base "worth_of" 3 (spD cs m_worth_of 2)) (D : Dn K mg "best_of" s28) : Cal P w K mg base "best_of" 4 (spD cs m_best_of 2) :=
  cal_dat (N := N_best_of) (ps := ["size", "likings"]) (n := 2) (b := b_best_of) (k := 3) D sc_best_of rfl (by decide) hb_best_of (p_best_of B C_all_groupings C_worth_of)
/-! best_grouping -/
def q29 : PSigma fun s : Stmt => s = topS 29 := by
  refine ⟨?s, ?h⟩
  case h =>
    conv => rhs; whnf
def s29 : Stmt := q29.1
theorem e29 : s29 = topS 29 := q29.2
abbrev N_best_grouping : List Str := ["size", "likings"]
theorem sc_best_grouping : FnScope N_best_grouping ["size", "likings"] (defScope s29) := ⟨rfl, rfl, rfl, by decide +kernel, rfl, by decide +kernel, by decide +kernel⟩
theorem hb_best_grouping : ∀ (kV doc pm : Value) (an : Option Addr) (cdv ct : Value) (us : List Value), us.length = 2 → bindArgs (PySem.W.fnOf "best_grouping" "best_grouping" (defArgs s29) (defBody s29) (defScope s29) .none kV doc pm an cdv ct) ⟨us, []⟩ = pure ((["size", "likings"] : List Str).zip us) :=
  fun _ _ _ _ _ _ us hl => match us, hl with | [_, _], _ => rfl
def b_best_grouping : Fb := (bSeq (bDo (fS (gN 2 m_need_liked) (sCons (fVar 0) (sCons (fVar 1) sNil)))) (bRet (fS (gN 2 m_best_of) (sCons (fVar 0) (sCons (fVar 1) sNil)))))
def m_best_grouping : List PyData → Option PyData := mk 2 2 b_best_grouping
theorem p_best_grouping (B : Blt mg) (C_need_liked : Cal P w K mg base "need_liked" 5 (spD cs m_need_liked 2)) (C_best_of : Cal P w K mg base "best_of" 4 (spD cs m_best_of 2)) (f : Addr) (cdv : Value) (A : Around) (outer : List PySem.Env) (s : Shared) (H : Hp) (hr : Room 5 (cxD P w K mg base N_best_grouping "best_grouping" s29 f cdv A outer s H).A) :
    PSs (cxD P w K mg base N_best_grouping "best_grouping" s29 f cdv A outer s H) (defBody s29) (tDS cs b_best_grouping) :=
  (ds_cons (ds_do (de_cal C_need_liked (hr.mono (j := 5) (by decide)) (da_cons (dv 0) (da_cons (dv 1) da_nil))))
  (ds_one (ds_ret (de_cal C_best_of (hr.mono (j := 4) (by decide)) (da_cons (dv 0) (da_cons (dv 1) da_nil))))))
theorem c_best_grouping (B : Blt mg) (C_need_liked : Cal P w K mg base "need_liked" 5 (spD cs m_need_liked 2)) (C_best_of : Cal P w K mg base "best_of" 4 (spD cs m_best_of 2)) (D : Dn K mg "best_grouping" s29) : Cal P w K mg base "best_grouping" 6 (spD cs m_best_grouping 2) :=
  cal_dat (N := N_best_grouping) (ps := ["size", "likings"]) (n := 2) (b := b_best_grouping) (k := 5) D sc_best_grouping rfl (by decide) hb_best_grouping (p_best_grouping B C_need_liked C_best_of)
/-! shows_best_grouping -/
def q30 : PSigma fun s : Stmt => s = topS 30 := by
  refine ⟨?s, ?h⟩
  case h =>
    conv => rhs; whnf
def s30 : Stmt := q30.1
theorem e30 : s30 = topS 30 := q30.2
abbrev N_shows_best_grouping : List Str := ["size", "likings", "value", "best"]
theorem sc_shows_best_grouping : FnScope N_shows_best_grouping ["size", "likings", "value"] (defScope s30) := ⟨rfl, rfl, rfl, by decide +kernel, rfl, by decide +kernel, by decide +kernel⟩
theorem hb_shows_best_grouping : ∀ (kV doc pm : Value) (an : Option Addr) (cdv ct : Value) (us : List Value), us.length = 3 → bindArgs (PySem.W.fnOf "shows_best_grouping" "shows_best_grouping" (defArgs s30) (defBody s30) (defScope s30) .none kV doc pm an cdv ct) ⟨us, []⟩ = pure ((["size", "likings", "value"] : List Str).zip us) :=
  fun _ _ _ _ _ _ us hl => match us, hl with | [_, _, _], _ => rfl
def b_shows_best_grouping : Fb := (bSeq (bDo (fS (gN 2 m_need_liked) (sCons (fVar 0) (sCons (fVar 1) sNil)))) (bSeq (bSet 3 (b2 gIx (fS (gN 2 m_best_of) (sCons (fVar 0) (sCons (fVar 1) sNil))) (fC (.int 0)))) (bSeq (bIf (fOrT (fNotT (fTru (f1 (uIs PyData.isTuple) (fVar 2)))) (fOrT (fBt (b2 gNe (fS gLen (sCons (fVar 2) sNil)) (fC (.int 2)))) (fNotT (fTru (fS (gN 3 m_is_in) (sCons (b2 gIx (fVar 2) (fC (.int 0))) (sCons (fVar 3) (sCons (fVar 3) sNil)))))))) (bRet (fC (.bool false))) bNx) (bSeq (bIf (fOrT (fNotT (fTru (fS (gN 1 m_is_grouping) (sCons (b2 gIx (fVar 2) (fC (.int 1))) sNil)))) (fBt (b2 gNe (fS (gN 1 m_size_of) (sCons (b2 gIx (fVar 2) (fC (.int 1))) sNil)) (fVar 0)))) (bRet (fC (.bool false))) bNx) (bRet (b2 gEq (fS (gN 2 m_worth_of) (sCons (b2 gIx (fVar 2) (fC (.int 1))) (sCons (fVar 1) sNil))) (fVar 3)))))))
def m_shows_best_grouping : List PyData → Option PyData := mk 3 4 b_shows_best_grouping
theorem p_shows_best_grouping (B : Blt mg) (C_need_liked : Cal P w K mg base "need_liked" 5 (spD cs m_need_liked 2)) (C_best_of : Cal P w K mg base "best_of" 4 (spD cs m_best_of 2)) (C_is_in : Cal P w K mg base "is_in" 1 (spD cs m_is_in 3)) (C_is_grouping : Cal P w K mg base "is_grouping" 5 (spD cs m_is_grouping 1)) (C_size_of : Cal P w K mg base "size_of" 2 (spD cs m_size_of 1)) (C_worth_of : Cal P w K mg base "worth_of" 3 (spD cs m_worth_of 2)) (f : Addr) (cdv : Value) (A : Around) (outer : List PySem.Env) (s : Shared) (H : Hp) (hr : Room 5 (cxD P w K mg base N_shows_best_grouping "shows_best_grouping" s30 f cdv A outer s H).A) :
    PSs (cxD P w K mg base N_shows_best_grouping "shows_best_grouping" s30 f cdv A outer s H) (defBody s30) (tDS cs b_shows_best_grouping) :=
  (ds_cons (ds_do (de_cal C_need_liked (hr.mono (j := 5) (by decide)) (da_cons (dv 0) (da_cons (dv 1) da_nil))))
  (ds_cons (ds_set 3 (de_at (de_cal C_best_of (hr.mono (j := 4) (by decide)) (da_cons (dv 0) (da_cons (dv 1) da_nil))) de_int) sc_shows_best_grouping.nd)
  (ds_cons (ds_if (PW.pt (dw_or (dt_not (dt_val (de_isi isiB_tuple B.isi B.tup boot_tuple (dv 2)))) (dw_or (dt_ne hr (de_callB cr_len B.len boot_len (da_cons (dv 2) da_nil)) de_int) (dw_or1 (dt_not (dt_val (de_cal C_is_in (hr.mono (j := 1) (by decide)) (da_cons (de_at (dv 2) de_int) (da_cons (dv 3) (da_cons (dv 3) da_nil)))))))))) (ds_one (ds_ret de_bl)) ds_nil)
  (ds_cons (ds_if (PW.pt (dw_or (dt_not (dt_val (de_cal C_is_grouping (hr.mono (j := 5) (by decide)) (da_cons (de_at (dv 2) de_int) da_nil)))) (dw_or1 (dt_ne hr (de_cal C_size_of (hr.mono (j := 2) (by decide)) (da_cons (de_at (dv 2) de_int) da_nil)) (dv 0))))) (ds_one (ds_ret de_bl)) ds_nil)
  (ds_one (ds_ret (de_eq hr (de_cal C_worth_of (hr.mono (j := 3) (by decide)) (da_cons (de_at (dv 2) de_int) (da_cons (dv 1) da_nil))) (dv 3))))))))
theorem c_shows_best_grouping (B : Blt mg) (C_need_liked : Cal P w K mg base "need_liked" 5 (spD cs m_need_liked 2)) (C_best_of : Cal P w K mg base "best_of" 4 (spD cs m_best_of 2)) (C_is_in : Cal P w K mg base "is_in" 1 (spD cs m_is_in 3)) (C_is_grouping : Cal P w K mg base "is_grouping" 5 (spD cs m_is_grouping 1)) (C_size_of : Cal P w K mg base "size_of" 2 (spD cs m_size_of 1)) (C_worth_of : Cal P w K mg base "worth_of" 3 (spD cs m_worth_of 2)) (D : Dn K mg "shows_best_grouping" s30) : Cal P w K mg base "shows_best_grouping" 6 (spD cs m_shows_best_grouping 3) :=
  cal_dat (N := N_shows_best_grouping) (ps := ["size", "likings", "value"]) (n := 3) (b := b_shows_best_grouping) (k := 5) D sc_shows_best_grouping rfl (by decide) hb_shows_best_grouping (p_shows_best_grouping B C_need_liked C_best_of C_is_in C_is_grouping C_size_of C_worth_of)
/-! best_of_lots -/
def q31 : PSigma fun s : Stmt => s = topS 31 := by
  refine ⟨?s, ?h⟩
  case h =>
    conv => rhs; whnf
def s31 : Stmt := q31.1
theorem e31 : s31 = topS 31 := q31.2
abbrev N_best_of_lots : List Str := ["size", "likings", "many", "one"]
theorem sc_best_of_lots : FnScope N_best_of_lots ["size", "likings", "many"] (defScope s31) := ⟨rfl, rfl, rfl, by decide +kernel, rfl, by decide +kernel, by decide +kernel⟩
theorem hb_best_of_lots : ∀ (kV doc pm : Value) (an : Option Addr) (cdv ct : Value) (us : List Value), us.length = 3 → bindArgs (PySem.W.fnOf "best_of_lots" "best_of_lots" (defArgs s31) (defBody s31) (defScope s31) .none kV doc pm an cdv ct) ⟨us, []⟩ = pure ((["size", "likings", "many"] : List Str).zip us) :=
  fun _ _ _ _ _ _ us hl => match us, hl with | [_, _, _], _ => rfl
def b_best_of_lots : Fb := (bSeq (bDo (fS (gN 2 m_need_liked) (sCons (fVar 0) (sCons (fVar 1) sNil)))) (bSeq (bIf (fNotT (fTru (fS (gN 3 m_is_in) (sCons (fVar 2) (sCons (fC (.int 1)) (sCons (fVar 0) sNil)))))) (fun _ => none) bNx) (bRet (fS gMax (sCons (fLc 3 (iSeq asList (fS (gN 1 m_all_groupings) (sCons (fVar 0) sNil))) (fBt (b2 gEq (fS gLen (sCons (fVar 3) sNil)) (fVar 2))) (fS (gN 2 m_worth_of) (sCons (fVar 3) (sCons (fVar 1) sNil)))) sNil)))))
def m_best_of_lots : List PyData → Option PyData := mk 3 4 b_best_of_lots
theorem p_best_of_lots (B : Blt mg) (C_need_liked : Cal P w K mg base "need_liked" 5 (spD cs m_need_liked 2)) (C_is_in : Cal P w K mg base "is_in" 1 (spD cs m_is_in 3)) (C_all_groupings : Cal P w K mg base "all_groupings" 1 (spD cs m_all_groupings 1)) (C_worth_of : Cal P w K mg base "worth_of" 3 (spD cs m_worth_of 2)) (f : Addr) (cdv : Value) (A : Around) (outer : List PySem.Env) (s : Shared) (H : Hp) (hr : Room 5 (cxD P w K mg base N_best_of_lots "best_of_lots" s31 f cdv A outer s H).A) :
    PSs (cxD P w K mg base N_best_of_lots "best_of_lots" s31 f cdv A outer s H) (defBody s31) (tDS cs b_best_of_lots) :=
  (ds_cons (ds_do (de_cal C_need_liked (hr.mono (j := 5) (by decide)) (da_cons (dv 0) (da_cons (dv 1) da_nil))))
  (ds_cons (ds_if (dt_not (dt_val (de_cal C_is_in (hr.mono (j := 1) (by decide)) (da_cons (dv 2) (da_cons de_int (da_cons (dv 0) da_nil)))))) (ds_one ds_never) ds_nil)
  (ds_one (ds_ret (de_callB (cr_maxD hr) B.max boot_max (da_cons (de_lc [("one", 3)] rfl sc_best_of_lots.nd (di_list (de_cal C_all_groupings (hr.mono (j := 1) (by decide)) (da_cons (dv 0) da_nil))) (blk_of (by rfl)) (fun _ _ _ _ _ => pg_name sc_best_of_lots.nd rfl (Or.inl rfl) (.inr rfl)) (fun _ _ _ _ _ => (dts_one (dt_eq hr (de_callB cr_len B.len boot_len (da_cons (dv 3) da_nil)) (dv 2)))) (fun _ _ _ _ _ => (de_cal C_worth_of (hr.mono (j := 3) (by decide)) (da_cons (dv 3) (da_cons (dv 1) da_nil))))) da_nil))))))
theorem c_best_of_lots (B : Blt mg) (C_need_liked : Cal P w K mg base "need_liked" 5 (spD cs m_need_liked 2)) (C_is_in : Cal P w K mg base "is_in" 1 (spD cs m_is_in 3)) (C_all_groupings : Cal P w K mg base "all_groupings" 1 (spD cs m_all_groupings 1)) (C_worth_of : Cal P w K mg base "worth_of" 3 (spD cs m_worth_of 2)) (D : Dn K mg "best_of_lots" s31) : Cal P w K mg base "best_of_lots" 6 (spD cs m_best_of_lots 3) :=
  cal_dat (N := N_best_of_lots) (ps := ["size", "likings", "many"]) (n := 3) (b := b_best_of_lots) (k := 5) D sc_best_of_lots rfl (by decide) hb_best_of_lots (p_best_of_lots B C_need_liked C_is_in C_all_groupings C_worth_of)
/-! sum_between -/
def q32 : PSigma fun s : Stmt => s = topS 32 := by
  refine ⟨?s, ?h⟩
  case h =>
    conv => rhs; whnf
def s32 : Stmt := q32.1
theorem e32 : s32 = topS 32 := q32.2
abbrev N_sum_between : List Str := ["one", "other", "size", "likings", "found", "pair", "liking"]
theorem sc_sum_between : FnScope N_sum_between ["one", "other", "size", "likings"] (defScope s32) := ⟨rfl, rfl, rfl, by decide +kernel, rfl, by decide +kernel, by decide +kernel⟩
theorem hb_sum_between : ∀ (kV doc pm : Value) (an : Option Addr) (cdv ct : Value) (us : List Value), us.length = 4 → bindArgs (PySem.W.fnOf "sum_between" "sum_between" (defArgs s32) (defBody s32) (defScope s32) .none kV doc pm an cdv ct) ⟨us, []⟩ = pure ((["one", "other", "size", "likings"] : List Str).zip us) :=
  fun _ _ _ _ _ _ us hl => match us, hl with | [_, _, _, _], _ => rfl
def b_sum_between : Fb := (bSeq (bSet 4 (fC (.int 0))) (bSeq (bFor (iZp (fS (gN 1 m_pairs_of) (sCons (fVar 2) sNil)) (fVar 3)) (gPr 5 6) (bIf (fOrT (fAndT (fBt (b2 gIn (b2 gIx (fVar 5) (fC (.int 0))) (fVar 0))) (fBt (b2 gIn (b2 gIx (fVar 5) (fC (.int 1))) (fVar 1)))) (fAndT (fBt (b2 gIn (b2 gIx (fVar 5) (fC (.int 0))) (fVar 1))) (fBt (b2 gIn (b2 gIx (fVar 5) (fC (.int 1))) (fVar 0))))) (bSet 4 (b2 gAdd (fVar 4) (fVar 6))) bNx)) (bRet (fVar 4))))
def m_sum_between : List PyData → Option PyData := mk 4 7 b_sum_between
theorem p_sum_between (B : Blt mg) (C_pairs_of : Cal P w K mg base "pairs_of" 1 (spD cs m_pairs_of 1)) (f : Addr) (cdv : Value) (A : Around) (outer : List PySem.Env) (s : Shared) (H : Hp) (hr : Room 1 (cxD P w K mg base N_sum_between "sum_between" s32 f cdv A outer s H).A) :
    PSs (cxD P w K mg base N_sum_between "sum_between" s32 f cdv A outer s H) (defBody s32) (tDS cs b_sum_between) :=
  (ds_cons (ds_set 4 de_int sc_sum_between.nd)
  (ds_cons (ds_for (di_zip B.zip (de_cal C_pairs_of (hr.mono (j := 1) (by decide)) (da_cons (dv 2) da_nil)) (dv 3)) (dg_pair 5 6 sc_sum_between.nd) (ds_one (ds_if (PW.pt (dw_or (PW.pt (dw_and (dt_in hr (de_at (dv 5) de_int) (dv 0)) (dw_and1 (dt_in hr (de_at (dv 5) de_int) (dv 1))))) (dw_or1 (PW.pt (dw_and (dt_in hr (de_at (dv 5) de_int) (dv 1)) (dw_and1 (dt_in hr (de_at (dv 5) de_int) (dv 0)))))))) (ds_one (ds_set 4 (de_add (dv 4) (dv 6)) sc_sum_between.nd)) ds_nil)))
  (ds_one (ds_ret (dv 4)))))
theorem c_sum_between (B : Blt mg) (C_pairs_of : Cal P w K mg base "pairs_of" 1 (spD cs m_pairs_of 1)) (D : Dn K mg "sum_between" s32) : Cal P w K mg base "sum_between" 2 (spD cs m_sum_between 4) :=
  cal_dat (N := N_sum_between) (ps := ["one", "other", "size", "likings"]) (n := 4) (b := b_sum_between) (k := 1) D sc_sum_between rfl (by decide) hb_sum_between (p_sum_between B C_pairs_of)
/-! calm -/
def q33 : PSigma fun s : Stmt => s = topS 33 := by
  refine ⟨?s, ?h⟩
  case h =>
    conv => rhs; whnf
def s33 : Stmt := q33.1
theorem e33 : s33 = topS 33 := q33.2
abbrev N_calm : List Str := ["grouping", "likings", "size", "lot", "person", "at", "other", "one"]
theorem sc_calm : FnScope N_calm ["grouping", "likings"] (defScope s33) := ⟨rfl, rfl, rfl, by decide +kernel, rfl, by decide +kernel, by decide +kernel⟩
theorem hb_calm : ∀ (kV doc pm : Value) (an : Option Addr) (cdv ct : Value) (us : List Value), us.length = 2 → bindArgs (PySem.W.fnOf "calm" "calm" (defArgs s33) (defBody s33) (defScope s33) .none kV doc pm an cdv ct) ⟨us, []⟩ = pure ((["grouping", "likings"] : List Str).zip us) :=
  fun _ _ _ _ _ _ us hl => match us, hl with | [_, _], _ => rfl
def b_calm : Fb := (bSeq (bSet 2 (fS (gN 1 m_size_of) (sCons (fVar 0) sNil))) (bSeq (bFor (iSeq asTup (fVar 0)) (gNm 3) (bFor (iSeq asTup (fVar 3)) (gNm 4) (bIf (fBt (b2 gLt (fS (gN 4 m_sum_between) (sCons (fS gTup (sCons (fVar 4) sNil)) (sCons (fS gTuple (sCons (fLc 7 (iSeq asTup (fVar 3)) (fBt (b2 gNe (fVar 7) (fVar 4))) (fVar 7)) sNil)) (sCons (fVar 2) (sCons (fVar 1) sNil))))) (fC (.int 0)))) (bRet (fC (.bool false))) bNx))) (bSeq (bFor (iEn (fVar 0)) (gPr 5 3) (bIf (fTru (fAny 6 (iSeq asTup (b2 gTo (fVar 0) (fVar 5))) (b2 gGt (fS (gN 4 m_sum_between) (sCons (fVar 3) (sCons (fVar 6) (sCons (fVar 2) (sCons (fVar 1) sNil))))) (fC (.int 0))))) (bRet (fC (.bool false))) bNx)) (bRet (fC (.bool true))))))
def m_calm : List PyData → Option PyData := mk 2 8 b_calm
theorem p_calm (B : Blt mg) (C_size_of : Cal P w K mg base "size_of" 2 (spD cs m_size_of 1)) (C_sum_between : Cal P w K mg base "sum_between" 2 (spD cs m_sum_between 4)) (f c Pt : Addr) (A : Around) (outer : List PySem.Env) (s : Shared) (H : Hp) (hT : Tab cs Pt) (hB : GxR.TabB base mg c Pt) (hr : Room 3 (cxD P w K mg base N_calm "calm" s33 f (.ref c) A outer s H).A) :
    PSs (cxD P w K mg base N_calm "calm" s33 f (.ref c) A outer s H) (defBody s33) (tDS cs b_calm) :=
  (ds_cons (ds_set 2 (de_cal C_size_of (hr.mono (j := 2) (by decide)) (da_cons (dv 0) da_nil)) sc_calm.nd)
  (ds_cons (ds_for (di_tup (dv 0)) (dg_name 3 sc_calm.nd) (ds_one (ds_for (di_tup (dv 3)) (dg_name 4 sc_calm.nd) (ds_one (ds_if (dt_lt hr (de_cal C_sum_between (hr.mono (j := 2) (by decide)) (da_cons (de_tup (da_cons (dv 4) da_nil)) (da_cons (de_callTy cr_tuple B.tup boot_tuple (da_cons (de_lc [("one", 7)] rfl sc_calm.nd (di_tup (dv 3)) (blk_of (by rfl)) (fun _ _ _ _ _ => pg_name sc_calm.nd rfl (Or.inl rfl) (.inr rfl)) (fun _ _ _ _ _ => (dts_one (dt_ne hr (dv 7) (dv 4)))) (fun _ _ _ _ _ => (dv 7))) da_nil)) (da_cons (dv 2) (da_cons (dv 1) da_nil))))) de_int) (ds_one (ds_ret de_bl)) ds_nil)))))
  (ds_cons (ds_for (di_enum B.enm (dv 0)) (dg_pair 5 3 sc_calm.nd) (ds_one (ds_if (dt_val (de_any (k := 2) (hr.mono (j := 3) (by decide)) hB hT rfl (gok_of (by rfl)) sc_calm.nd B.any (di_tup (de_to (dv 0) (dv 5))) (fun _ _ _ _ _ _ _ _ _ hr' => pg_name sc_calm.nd rfl (Or.inl rfl) (.inr rfl)) (fun _ _ _ _ _ _ _ _ _ hr' => (de_gt (de_cal C_sum_between (hr'.mono (j := 2) (by decide)) (da_cons (dv 3) (da_cons (dv 6) (da_cons (dv 2) (da_cons (dv 1) da_nil))))) de_int)))) (ds_one (ds_ret de_bl)) ds_nil)))
  (ds_one (ds_ret de_bl)))))
theorem c_calm (B : Blt mg) (C_size_of : Cal P w K mg base "size_of" 2 (spD cs m_size_of 1)) (C_sum_between : Cal P w K mg base "sum_between" 2 (spD cs m_sum_between 4)) (D : DnT K mg base cs "calm" s33) : Cal P w K mg base "calm" 4 (spD cs m_calm 2) :=
  cal_tab (N := N_calm) (ps := ["grouping", "likings"]) (n := 2) (b := b_calm) (k := 3) D sc_calm rfl (by decide) hb_calm (p_calm B C_size_of C_sum_between)
/-! is_calm -/
def q34 : PSigma fun s : Stmt => s = topS 34 := by
  refine ⟨?s, ?h⟩
  case h =>
    conv => rhs; whnf
def s34 : Stmt := q34.1
theorem e34 : s34 = topS 34 := q34.2
abbrev N_is_calm : List Str := ["grouping", "likings"]
theorem sc_is_calm : FnScope N_is_calm ["grouping", "likings"] (defScope s34) := ⟨rfl, rfl, rfl, by decide +kernel, rfl, by decide +kernel, by decide +kernel⟩
theorem hb_is_calm : ∀ (kV doc pm : Value) (an : Option Addr) (cdv ct : Value) (us : List Value), us.length = 2 → bindArgs (PySem.W.fnOf "is_calm" "is_calm" (defArgs s34) (defBody s34) (defScope s34) .none kV doc pm an cdv ct) ⟨us, []⟩ = pure ((["grouping", "likings"] : List Str).zip us) :=
  fun _ _ _ _ _ _ us hl => match us, hl with | [_, _], _ => rfl
def b_is_calm : Fb := (bSeq (bDo (fS (gN 1 m_need_grouping) (sCons (fVar 0) sNil))) (bSeq (bDo (fS (gN 2 m_need_likings) (sCons (fS (gN 1 m_size_of) (sCons (fVar 0) sNil)) (sCons (fVar 1) sNil)))) (bRet (fS (gN 2 m_calm) (sCons (fVar 0) (sCons (fVar 1) sNil))))))
def m_is_calm : List PyData → Option PyData := mk 2 2 b_is_calm
theorem p_is_calm (B : Blt mg) (C_need_grouping : Cal P w K mg base "need_grouping" 6 (spD cs m_need_grouping 1)) (C_size_of : Cal P w K mg base "size_of" 2 (spD cs m_size_of 1)) (C_need_likings : Cal P w K mg base "need_likings" 4 (spD cs m_need_likings 2)) (C_calm : Cal P w K mg base "calm" 4 (spD cs m_calm 2)) (f : Addr) (cdv : Value) (A : Around) (outer : List PySem.Env) (s : Shared) (H : Hp) (hr : Room 6 (cxD P w K mg base N_is_calm "is_calm" s34 f cdv A outer s H).A) :
    PSs (cxD P w K mg base N_is_calm "is_calm" s34 f cdv A outer s H) (defBody s34) (tDS cs b_is_calm) :=
  (ds_cons (ds_do (de_cal C_need_grouping (hr.mono (j := 6) (by decide)) (da_cons (dv 0) da_nil)))
  (ds_cons (ds_do (de_cal C_need_likings (hr.mono (j := 4) (by decide)) (da_cons (de_cal C_size_of (hr.mono (j := 2) (by decide)) (da_cons (dv 0) da_nil)) (da_cons (dv 1) da_nil))))
  (ds_one (ds_ret (de_cal C_calm (hr.mono (j := 4) (by decide)) (da_cons (dv 0) (da_cons (dv 1) da_nil)))))))
theorem c_is_calm (B : Blt mg) (C_need_grouping : Cal P w K mg base "need_grouping" 6 (spD cs m_need_grouping 1)) (C_size_of : Cal P w K mg base "size_of" 2 (spD cs m_size_of 1)) (C_need_likings : Cal P w K mg base "need_likings" 4 (spD cs m_need_likings 2)) (C_calm : Cal P w K mg base "calm" 4 (spD cs m_calm 2)) (D : Dn K mg "is_calm" s34) : Cal P w K mg base "is_calm" 7 (spD cs m_is_calm 2) :=
  cal_dat (N := N_is_calm) (ps := ["grouping", "likings"]) (n := 2) (b := b_is_calm) (k := 6) D sc_is_calm rfl (by decide) hb_is_calm (p_is_calm B C_need_grouping C_size_of C_need_likings C_calm)
/-! calm_ones -/
def q35 : PSigma fun s : Stmt => s = topS 35 := by
  refine ⟨?s, ?h⟩
  case h =>
    conv => rhs; whnf
def s35 : Stmt := q35.1
theorem e35 : s35 = topS 35 := q35.2
abbrev N_calm_ones : List Str := ["size", "likings", "one"]
theorem sc_calm_ones : FnScope N_calm_ones ["size", "likings"] (defScope s35) := ⟨rfl, rfl, rfl, by decide +kernel, rfl, by decide +kernel, by decide +kernel⟩
theorem hb_calm_ones : ∀ (kV doc pm : Value) (an : Option Addr) (cdv ct : Value) (us : List Value), us.length = 2 → bindArgs (PySem.W.fnOf "calm_ones" "calm_ones" (defArgs s35) (defBody s35) (defScope s35) .none kV doc pm an cdv ct) ⟨us, []⟩ = pure ((["size", "likings"] : List Str).zip us) :=
  fun _ _ _ _ _ _ us hl => match us, hl with | [_, _], _ => rfl
def b_calm_ones : Fb := (bSeq (bDo (fS (gN 2 m_need_liked) (sCons (fVar 0) (sCons (fVar 1) sNil)))) (bRet (fS gTuple (sCons (fLc 2 (iSeq asList (fS (gN 1 m_all_groupings) (sCons (fVar 0) sNil))) (fTru (fS (gN 2 m_calm) (sCons (fVar 2) (sCons (fVar 1) sNil)))) (fVar 2)) sNil))))
def m_calm_ones : List PyData → Option PyData := mk 2 3 b_calm_ones
theorem p_calm_ones (B : Blt mg) (C_need_liked : Cal P w K mg base "need_liked" 5 (spD cs m_need_liked 2)) (C_all_groupings : Cal P w K mg base "all_groupings" 1 (spD cs m_all_groupings 1)) (C_calm : Cal P w K mg base "calm" 4 (spD cs m_calm 2)) (f : Addr) (cdv : Value) (A : Around) (outer : List PySem.Env) (s : Shared) (H : Hp) (hr : Room 5 (cxD P w K mg base N_calm_ones "calm_ones" s35 f cdv A outer s H).A) :
    PSs (cxD P w K mg base N_calm_ones "calm_ones" s35 f cdv A outer s H) (defBody s35) (tDS cs b_calm_ones) :=
  (ds_cons (ds_do (de_cal C_need_liked (hr.mono (j := 5) (by decide)) (da_cons (dv 0) (da_cons (dv 1) da_nil))))
  (ds_one (ds_ret (de_callTy cr_tuple B.tup boot_tuple (da_cons (de_lc [("one", 2)] rfl sc_calm_ones.nd (di_list (de_cal C_all_groupings (hr.mono (j := 1) (by decide)) (da_cons (dv 0) da_nil))) (blk_of (by rfl)) (fun _ _ _ _ _ => pg_name sc_calm_ones.nd rfl (Or.inl rfl) (.inr rfl)) (fun _ _ _ _ _ => (dts_one (dt_val (de_cal C_calm (hr.mono (j := 4) (by decide)) (da_cons (dv 2) (da_cons (dv 1) da_nil)))))) (fun _ _ _ _ _ => (dv 2))) da_nil)))))
theorem c_calm_ones (B : Blt mg) (C_need_liked : Cal P w K mg base "need_liked" 5 (spD cs m_need_liked 2)) (C_all_groupings : Cal P w K mg base "all_groupings" 1 (spD cs m_all_groupings 1)) (C_calm : Cal P w K mg base "calm" 4 (spD cs m_calm 2)) (D : Dn K mg "calm_ones" s35) : Cal P w K mg base "calm_ones" 6 (spD cs m_calm_ones 2) :=
  cal_dat (N := N_calm_ones) (ps := ["size", "likings"]) (n := 2) (b := b_calm_ones) (k := 5) D sc_calm_ones rfl (by decide) hb_calm_ones (p_calm_ones B C_need_liked C_all_groupings C_calm)
/-! climb -/
def q36 : PSigma fun s : Stmt => s = topS 36 := by
  refine ⟨?s, ?h⟩
  case h =>
    conv => rhs; whnf
def s36 : Stmt := q36.1
theorem e36 : s36 = topS 36 := q36.2
abbrev N_climb : List Str := ["grouping", "likings", "row", "best", "step", "there"]
theorem sc_climb : FnScope N_climb ["grouping", "likings"] (defScope s36) := ⟨rfl, rfl, rfl, by decide +kernel, rfl, by decide +kernel, by decide +kernel⟩
theorem hb_climb : ∀ (kV doc pm : Value) (an : Option Addr) (cdv ct : Value) (us : List Value), us.length = 2 → bindArgs (PySem.W.fnOf "climb" "climb" (defArgs s36) (defBody s36) (defScope s36) .none kV doc pm an cdv ct) ⟨us, []⟩ = pure ((["grouping", "likings"] : List Str).zip us) :=
  fun _ _ _ _ _ _ us hl => match us, hl with | [_, _], _ => rfl
def b_climb : Fb := (bSeq (bDo (fS (gN 1 m_need_grouping) (sCons (fVar 0) sNil))) (bSeq (bDo (fS (gN 2 m_need_likings) (sCons (fS (gN 1 m_size_of) (sCons (fVar 0) sNil)) (sCons (fVar 1) sNil)))) (bSeq (bNew 2) (whD (bSeq (bSet 3 (fC .none)) (bSeq (bFor (iSeq asList (fS (gN 1 m_all_steps) (sCons (fS (gN 1 m_size_of) (sCons (fVar 0) sNil)) sNil))) (gNm 4) (bSeq (bSet 5 (fS (gN 2 m_worth_of) (sCons (fS (gN 2 m_stepped) (sCons (fVar 0) (sCons (fVar 4) sNil))) (sCons (fVar 1) sNil)))) (bIf (fOrT (fBt (f1 uIsN (fVar 3))) (fBt (b2 gGt (fVar 5) (b2 gIx (fVar 3) (fC (.int 0)))))) (bSet 3 (fS gTup (sCons (fVar 5) (sCons (fVar 4) sNil)))) bNx))) (bSeq (bIf (fBt (b2 gLe (b2 gIx (fVar 3) (fC (.int 0))) (fS (gN 2 m_worth_of) (sCons (fVar 0) (sCons (fVar 1) sNil))))) (bFrz 2 (bRet (fS gTuple (sCons (fVar 2) sNil)))) bNx) (bSeq (bApp 2 (b2 gIx (fVar 3) (fC (.int 1)))) (bSet 0 (fS (gN 2 m_stepped) (sCons (fVar 0) (sCons (b2 gIx (fVar 3) (fC (.int 1))) sNil)))))))) 16))))
def m_climb : List PyData → Option PyData := mk 2 6 b_climb
theorem p_climb (B : Blt mg) (C_need_grouping : Cal P w K mg base "need_grouping" 6 (spD cs m_need_grouping 1)) (C_size_of : Cal P w K mg base "size_of" 2 (spD cs m_size_of 1)) (C_need_likings : Cal P w K mg base "need_likings" 4 (spD cs m_need_likings 2)) (C_all_steps : Cal P w K mg base "all_steps" 1 (spD cs m_all_steps 1)) (C_stepped : Cal P w K mg base "stepped" 3 (spD cs m_stepped 2)) (C_worth_of : Cal P w K mg base "worth_of" 3 (spD cs m_worth_of 2)) (f : Addr) (cdv : Value) (A : Around) (outer : List PySem.Env) (s : Shared) (H : Hp) (hr : Room 6 (cxD P w K mg base N_climb "climb" s36 f cdv A outer s H).A) :
    PSs (cxD P w K mg base N_climb "climb" s36 f cdv A outer s H) (defBody s36) (tDS cs b_climb) :=
  (ds_cons (ds_do (de_cal C_need_grouping (hr.mono (j := 6) (by decide)) (da_cons (dv 0) da_nil)))
  (ds_cons (ds_do (de_cal C_need_likings (hr.mono (j := 4) (by decide)) (da_cons (de_cal C_size_of (hr.mono (j := 2) (by decide)) (da_cons (dv 0) da_nil)) (da_cons (dv 1) da_nil))))
  (ds_cons (ds_new 2 sc_climb.nd)
  (ds_one (ds_while 16 (ds_cons (ds_set 3 de_non sc_climb.nd)
  (ds_cons (ds_for (di_list (de_cal C_all_steps (hr.mono (j := 1) (by decide)) (da_cons (de_cal C_size_of (hr.mono (j := 2) (by decide)) (da_cons (dv 0) da_nil)) da_nil))) (dg_name 4 sc_climb.nd) (ds_cons (ds_set 5 (de_cal C_worth_of (hr.mono (j := 3) (by decide)) (da_cons (de_cal C_stepped (hr.mono (j := 3) (by decide)) (da_cons (dv 0) (da_cons (dv 4) da_nil))) (da_cons (dv 1) da_nil))) sc_climb.nd)
  (ds_one (ds_if (PW.pt (dw_or (dt_isN (dv 3)) (dw_or1 (dt_gt (dv 5) (de_at (dv 3) de_int))))) (ds_one (ds_set 3 (de_tup (da_cons (dv 5) (da_cons (dv 4) da_nil))) sc_climb.nd)) ds_nil))))
  (ds_cons (ds_if (dt_le (de_at (dv 3) de_int) (de_cal C_worth_of (hr.mono (j := 3) (by decide)) (da_cons (dv 0) (da_cons (dv 1) da_nil)))) (ds_one (ds_frz 2 (ds_ret (de_callTy cr_tuple B.tup boot_tuple (da_cons (dv 2) da_nil))))) ds_nil)
  (ds_cons (ds_append 2 (de_at (dv 3) de_int))
  (ds_one (ds_set 0 (de_cal C_stepped (hr.mono (j := 3) (by decide)) (da_cons (dv 0) (da_cons (de_at (dv 3) de_int) da_nil))) sc_climb.nd)))))))))))
theorem c_climb (B : Blt mg) (C_need_grouping : Cal P w K mg base "need_grouping" 6 (spD cs m_need_grouping 1)) (C_size_of : Cal P w K mg base "size_of" 2 (spD cs m_size_of 1)) (C_need_likings : Cal P w K mg base "need_likings" 4 (spD cs m_need_likings 2)) (C_all_steps : Cal P w K mg base "all_steps" 1 (spD cs m_all_steps 1)) (C_stepped : Cal P w K mg base "stepped" 3 (spD cs m_stepped 2)) (C_worth_of : Cal P w K mg base "worth_of" 3 (spD cs m_worth_of 2)) (D : Dn K mg "climb" s36) : Cal P w K mg base "climb" 7 (spD cs m_climb 2) :=
  cal_dat (N := N_climb) (ps := ["grouping", "likings"]) (n := 2) (b := b_climb) (k := 6) D sc_climb rfl (by decide) hb_climb (p_climb B C_need_grouping C_size_of C_need_likings C_all_steps C_stepped C_worth_of)
end
end DL

/-! Dm3: the defs of the law text but for the drawing ones. -/
namespace DL
open PySem PySem.Spec PyProof.Rows L2
section
variable {P : Program} {w : World} {K : PySem.W.Frag} {mg : Str → Option Value} {base : Heap} {cs : Cs}
/-! _law_alike -/
def q40 : PSigma fun s : Stmt => s = topS 40 := by
  refine ⟨?s, ?h⟩
  case h =>
    conv => rhs; whnf
def s40 : Stmt := q40.1
theorem e40 : s40 = topS 40 := q40.2
abbrev N__law_alike : List Str := ["_law_found", "_law_due", "_law_k"]
theorem sc__law_alike : FnScope N__law_alike ["_law_found", "_law_due"] (defScope s40) := ⟨rfl, rfl, rfl, by decide +kernel, rfl, by decide +kernel, by decide +kernel⟩
theorem hb__law_alike : ∀ (kV doc pm : Value) (an : Option Addr) (cdv ct : Value) (us : List Value), us.length = 2 → bindArgs (PySem.W.fnOf "_law_alike" "_law_alike" (defArgs s40) (defBody s40) (defScope s40) .none kV doc pm an cdv ct) ⟨us, []⟩ = pure ((["_law_found", "_law_due"] : List Str).zip us) :=
  fun _ _ _ _ _ _ us hl => match us, hl with | [_, _], _ => rfl
def b__law_alike (m__law_alike : List PyData → Option PyData) : Fb := (bSeq (bIf (fTru (f1 uIsSeq (fVar 1))) (bSeq (bIf (fOrT (fNotT (fTru (f1 uIsSeq (fVar 0)))) (fBt (b2 gNe (f1 (uIs PyData.isList) (fVar 0)) (f1 (uIs PyData.isList) (fVar 1))))) (bRet (fC (.bool false))) bNx) (bSeq (bIf (fBt (b2 gNe (fS gLen (sCons (fVar 0) sNil)) (fS gLen (sCons (fVar 1) sNil)))) (bRet (fC (.bool false))) bNx) (bRet (b2 gEq (fLc 2 (iSeq asRg (fS gLen (sCons (fVar 1) sNil))) (fNotT (fTru (fS (gN 2 m__law_alike) (sCons (b2 gIx (fVar 0) (fVar 2)) (sCons (b2 gIx (fVar 1) (fVar 2)) sNil))))) (fVar 2)) (fS gLst sNil))))) bNx) (bSeq (bIf (fOrT (fBt (f1 uIsN (fVar 1))) (fTru (f1 (uIs PyData.isStr) (fVar 1)))) (bRet (fAnd (b2 gEq (fVar 0) (fVar 1)) (b2 gEq (f1 (uIs PyData.isStr) (fVar 0)) (f1 (uIs PyData.isStr) (fVar 1))))) bNx) (bRet (fAnd (f1 (uIs PyData.isInt) (fVar 0)) (fAnd (b2 gEq (f1 (uIs PyData.isBool) (fVar 0)) (f1 (uIs PyData.isBool) (fVar 1))) (b2 gEq (fVar 0) (fVar 1)))))))
def m__law_alike : Nat → List PyData → Option PyData
  | 0 => fun _ => none
  | j + 1 => mk 2 3 (b__law_alike (m__law_alike j))
theorem p__law_alike {m__law_alike : List PyData → Option PyData} {j : Nat} (B : Blt mg) (C__law_alike : Cal P w K mg base "_law_alike" j (spD cs m__law_alike 2)) (f : Addr) (cdv : Value) (A : Around) (outer : List PySem.Env) (s : Shared) (H : Hp) (hr : Room j (cxD P w K mg base N__law_alike "_law_alike" s40 f cdv A outer s H).A) :
    PSs (cxD P w K mg base N__law_alike "_law_alike" s40 f cdv A outer s H) (defBody s40) (tDS cs (b__law_alike m__law_alike)) :=
  (ds_cons (ds_if (dt_val (de_isiTL B.isi B.tup B.lst (dv 1))) (ds_cons (ds_if (PW.pt (dw_or (dt_not (dt_val (de_isiTL B.isi B.tup B.lst (dv 0)))) (dw_or1 (dt_ne hr (de_isi isiB_list B.isi B.lst boot_list (dv 0)) (de_isi isiB_list B.isi B.lst boot_list (dv 1)))))) (ds_one (ds_ret de_bl)) ds_nil)
  (ds_cons (ds_if (dt_ne hr (de_callB cr_len B.len boot_len (da_cons (dv 0) da_nil)) (de_callB cr_len B.len boot_len (da_cons (dv 1) da_nil))) (ds_one (ds_ret de_bl)) ds_nil)
  (ds_one (ds_ret (de_eq hr (de_lc [("_law_k", 2)] rfl sc__law_alike.nd (di_rg1 B.rng (de_callB cr_len B.len boot_len (da_cons (dv 1) da_nil))) (blk_of (by rfl)) (fun _ _ _ _ _ => pg_name sc__law_alike.nd rfl (Or.inl rfl) (.inr rfl)) (fun _ _ _ _ _ => (dts_one (dt_not (dt_val (de_cal C__law_alike hr (da_cons (de_at (dv 0) (dv 2)) (da_cons (de_at (dv 1) (dv 2)) da_nil))))))) (fun _ _ _ _ _ => (dv 2))) (de_lst da_nil)))))) ds_nil)
  (ds_cons (ds_if (PW.pt (dw_or (dt_isN (dv 1)) (dw_or1 (dt_val (de_isi isiB_str B.isi B.str (by decide +kernel) (dv 1)))))) (ds_one (ds_ret (de_and (de_eq hr (dv 0) (dv 1)) (de_one (de_eq hr (de_isi isiB_str B.isi B.str (by decide +kernel) (dv 0)) (de_isi isiB_str B.isi B.str (by decide +kernel) (dv 1))))))) ds_nil)
  (ds_one (ds_ret (de_and (de_isi isiB_int B.isi B.int boot_int (dv 0)) (de_and (de_eq hr (de_isi isiB_bool B.isi B.bl (by decide +kernel) (dv 0)) (de_isi isiB_bool B.isi B.bl (by decide +kernel) (dv 1))) (de_one (de_eq hr (dv 0) (dv 1)))))))))
theorem c__law_alike (B : Blt mg) (D : Dn K mg "_law_alike" s40) : ∀ j, Cal P w K mg base "_law_alike" j (spD cs (m__law_alike j) 2)
  | 0 => cal_none (N := N__law_alike) (ps := ["_law_found", "_law_due"]) D rfl hb__law_alike
  | j + 1 => cal_dat (N := N__law_alike) (ps := ["_law_found", "_law_due"]) (n := 2) (b := b__law_alike (m__law_alike j)) (k := j) D sc__law_alike rfl (by decide) hb__law_alike (p__law_alike B (c__law_alike B D j))
/-! _law_lots -/
def q41 : PSigma fun s : Stmt => s = topS 41 := by
  refine ⟨?s, ?h⟩
  case h =>
    conv => rhs; whnf
def s41 : Stmt := q41.1
theorem e41 : s41 = topS 41 := q41.2
abbrev N__law_lots : List Str := ["_law_labels_here", "_law_found", "_law_label", "_law_k"]
theorem sc__law_lots : FnScope N__law_lots ["_law_labels_here"] (defScope s41) := ⟨rfl, rfl, rfl, by decide +kernel, rfl, by decide +kernel, by decide +kernel⟩
theorem hb__law_lots : ∀ (kV doc pm : Value) (an : Option Addr) (cdv ct : Value) (us : List Value), us.length = 1 → bindArgs (PySem.W.fnOf "_law_lots" "_law_lots" (defArgs s41) (defBody s41) (defScope s41) .none kV doc pm an cdv ct) ⟨us, []⟩ = pure ((["_law_labels_here"] : List Str).zip us) :=
  fun _ _ _ _ _ _ us hl => match us, hl with | [_], _ => rfl
def b__law_lots : Fb := (bSeq (bNew 1) (bSeq (bFor (iSeq asList (f1 gSS (fVar 0))) (gNm 2) (bApp 1 (fS gTuple (sCons (fLc 3 (iSeq asRg (fS gLen (sCons (fVar 0) sNil))) (fBt (b2 gEq (b2 gIx (fVar 0) (fVar 3)) (fVar 2))) (fVar 3)) sNil)))) (bFrz 1 (bRet (fS gTuple (sCons (fS gSorted (sCons (fVar 1) sNil)) sNil))))))
def m__law_lots : List PyData → Option PyData := mk 1 4 b__law_lots
theorem p__law_lots (B : Blt mg) (f : Addr) (cdv : Value) (A : Around) (outer : List PySem.Env) (s : Shared) (H : Hp) (hr : Room 0 (cxD P w K mg base N__law_lots "_law_lots" s41 f cdv A outer s H).A) :
    PSs (cxD P w K mg base N__law_lots "_law_lots" s41 f cdv A outer s H) (defBody s41) (tDS cs b__law_lots) :=
  (ds_cons (ds_new 1 sc__law_lots.nd)
  (ds_cons (ds_for (di_list (de_sortedSet B.srt B.set (dv 0))) (dg_name 2 sc__law_lots.nd) (ds_one (ds_append 1 (de_callTy cr_tuple B.tup boot_tuple (da_cons (de_lc [("_law_k", 3)] rfl sc__law_lots.nd (di_rg1 B.rng (de_callB cr_len B.len boot_len (da_cons (dv 0) da_nil))) (blk_of (by rfl)) (fun _ _ _ _ _ => pg_name sc__law_lots.nd rfl (Or.inl rfl) (.inr rfl)) (fun _ _ _ _ _ => (dts_one (dt_eq hr (de_at (dv 0) (dv 3)) (dv 2)))) (fun _ _ _ _ _ => (dv 3))) da_nil)))))
  (ds_one (ds_frz 1 (ds_ret (de_callTy cr_tuple B.tup boot_tuple (da_cons (de_callB (cr_sortedD hr) B.srt boot_sorted (da_cons (dv 1) da_nil)) da_nil)))))))
theorem c__law_lots (B : Blt mg) (D : Dn K mg "_law_lots" s41) : Cal P w K mg base "_law_lots" 1 (spD cs m__law_lots 1) :=
  cal_dat (N := N__law_lots) (ps := ["_law_labels_here"]) (n := 1) (b := b__law_lots) (k := 0) D sc__law_lots rfl (by decide) hb__law_lots (p__law_lots B)
/-! _law_labels -/
def q42 : PSigma fun s : Stmt => s = topS 42 := by
  refine ⟨?s, ?h⟩
  case h =>
    conv => rhs; whnf
def s42 : Stmt := q42.1
theorem e42 : s42 = topS 42 := q42.2
abbrev N__law_labels : List Str := ["_law_grouping_here", "_law_found", "_law_k", "_law_person"]
theorem sc__law_labels : FnScope N__law_labels ["_law_grouping_here"] (defScope s42) := ⟨rfl, rfl, rfl, by decide +kernel, rfl, by decide +kernel, by decide +kernel⟩
theorem hb__law_labels : ∀ (kV doc pm : Value) (an : Option Addr) (cdv ct : Value) (us : List Value), us.length = 1 → bindArgs (PySem.W.fnOf "_law_labels" "_law_labels" (defArgs s42) (defBody s42) (defScope s42) .none kV doc pm an cdv ct) ⟨us, []⟩ = pure ((["_law_grouping_here"] : List Str).zip us) :=
  fun _ _ _ _ _ _ us hl => match us, hl with | [_], _ => rfl
def b__law_labels : Fb := (bSeq (bNewD 1) (bSeq (bFor (iSeq asRg (fS gLen (sCons (fVar 0) sNil))) (gNm 2) (bFor (iSeq asTup (b2 gIx (fVar 0) (fVar 2))) (gNm 3) (bPutD 1 (fVar 3) (fVar 2)))) (bRetO (fLcL 3 (iSeq asList (fS gSorted (sCons (fKeys 1) sNil))) tYesD (fGetD 1 (fVar 3))))))
def m__law_labels : List PyData → Option (List PyData) := mkO 1 4 b__law_labels
theorem p__law_labels (B : Blt mg) (f : Addr) (cdv : Value) (A : Around) (outer : List PySem.Env) (s : Shared) (H : Hp) (hr : Room 0 (cxD P w K mg base N__law_labels "_law_labels" s42 f cdv A outer s H).A) :
    PSs (cxD P w K mg base N__law_labels "_law_labels" s42 f cdv A outer s H) (defBody s42) (tDS cs b__law_labels) :=
  (ds_cons (ds_newD 1 sc__law_labels.nd)
  (ds_cons (ds_for (di_rg1 B.rng (de_callB cr_len B.len boot_len (da_cons (dv 0) da_nil))) (dg_name 2 sc__law_labels.nd) (ds_one (ds_for (di_tup (de_at (dv 0) (dv 2))) (dg_name 3 sc__law_labels.nd) (ds_one (ds_putD 1 hr (dv 3) (dv 2))))))
  (ds_one (ds_retO (de_lcO [("_law_person", 3)] rfl sc__law_labels.nd (di_list (de_callB (cr_sortedD hr) B.srt boot_sorted (da_cons (de_keys 1 B.lst) da_nil))) (blk_of (by rfl)) (fun _ _ _ _ _ => pg_name sc__law_labels.nd rfl (Or.inl rfl) (.inr rfl)) (fun _ _ _ _ _ => dts_nil) (fun _ _ _ _ _ => (de_getD 1 hr (dv 3))))))))
theorem o__law_labels (B : Blt mg) (D : Dn K mg "_law_labels" s42) : Cal P w K mg base "_law_labels" 1 (spO cs m__law_labels 1) :=
  cal_own (N := N__law_labels) (ps := ["_law_grouping_here"]) (n := 1) (b := b__law_labels) (k := 0) D sc__law_labels rfl (by decide) hb__law_labels (p__law_labels B)
theorem c__law_labels (B : Blt mg) (D : Dn K mg "_law_labels" s42) : Cal P w K mg base "_law_labels" 1 (spD cs (frzM m__law_labels) 1) :=
  (o__law_labels B D).mono fun _ _ _ _ h => spO_frz h
/-! _law_step -/
def q44 : PSigma fun s : Stmt => s = topS 44 := by
  refine ⟨?s, ?h⟩
  case h =>
    conv => rhs; whnf
def s44 : Stmt := q44.1
theorem e44 : s44 = topS 44 := q44.2
abbrev N__law_step : List Str := ["_law_grouping_here", "_law_step_here", "_law_labels_here", "_law_old", "_law_label"]
theorem sc__law_step : FnScope N__law_step ["_law_grouping_here", "_law_step_here"] (defScope s44) := ⟨rfl, rfl, rfl, by decide +kernel, rfl, by decide +kernel, by decide +kernel⟩
theorem hb__law_step : ∀ (kV doc pm : Value) (an : Option Addr) (cdv ct : Value) (us : List Value), us.length = 2 → bindArgs (PySem.W.fnOf "_law_step" "_law_step" (defArgs s44) (defBody s44) (defScope s44) .none kV doc pm an cdv ct) ⟨us, []⟩ = pure ((["_law_grouping_here", "_law_step_here"] : List Str).zip us) :=
  fun _ _ _ _ _ _ us hl => match us, hl with | [_, _], _ => rfl
def b__law_step : Fb := (bSeq (bSetO 2 (gNO 1 m__law_labels (sCons (fVar 0) sNil))) (bSeq (bIf (fBt (b2 gEq (fS gLen (sCons (fVar 1) sNil)) (fC (.int 1)))) (bPutO 2 (b2 gIx (fVar 1) (fC (.int 0))) (b2 gAdd (fLenO 2) (fC (.int 9)))) (bSeq (bSet 3 (fAtO 2 (b2 gIx (fVar 1) (fC (.int 1))))) (bFrz 2 (bSet 2 (fLc 4 (iSeq asList (fVar 2)) tYesD (fIf (fBt (b2 gEq (fVar 4) (fVar 3))) (b2 gIx (fVar 2) (b2 gIx (fVar 1) (fC (.int 0)))) (fVar 4))))))) (bFrz 2 (bRet (fS (gN 1 m__law_lots) (sCons (fVar 2) sNil))))))
def m__law_step : List PyData → Option PyData := mk 2 5 b__law_step
theorem p__law_step (B : Blt mg) (O__law_labels : Cal P w K mg base "_law_labels" 1 (spO cs m__law_labels 1)) (C__law_labels : Cal P w K mg base "_law_labels" 1 (spD cs (frzM m__law_labels) 1)) (C__law_lots : Cal P w K mg base "_law_lots" 1 (spD cs m__law_lots 1)) (f : Addr) (cdv : Value) (A : Around) (outer : List PySem.Env) (s : Shared) (H : Hp) (hr : Room 1 (cxD P w K mg base N__law_step "_law_step" s44 f cdv A outer s H).A) :
    PSs (cxD P w K mg base N__law_step "_law_step" s44 f cdv A outer s H) (defBody s44) (tDS cs b__law_step) :=
  (ds_cons (ds_setO 2 (de_calO O__law_labels (hr.mono (j := 1) (by decide)) (da_cons (dv 0) da_nil)) sc__law_step.nd)
  (ds_cons (ds_if (dt_eq hr (de_callB cr_len B.len boot_len (da_cons (dv 1) da_nil)) de_int) (ds_one (ds_putO 2 (de_at (dv 1) de_int) (de_add (de_lenO 2 B.len) de_int))) (ds_cons (ds_set 3 (de_atO 2 (de_at (dv 1) de_int)) sc__law_step.nd)
  (ds_one (ds_frz 2 (ds_set 2 (de_lc [("_law_label", 4)] rfl sc__law_step.nd (di_list (dv 2)) (blk_of (by rfl)) (fun _ _ _ _ _ => pg_name sc__law_step.nd rfl (Or.inl rfl) (.inr rfl)) (fun _ _ _ _ _ => dts_nil) (fun _ _ _ _ _ => (de_if (dt_eq hr (dv 4) (dv 3)) (de_at (dv 2) (de_at (dv 1) de_int)) (dv 4)))) sc__law_step.nd)))))
  (ds_one (ds_frz 2 (ds_ret (de_cal C__law_lots (hr.mono (j := 1) (by decide)) (da_cons (dv 2) da_nil)))))))
theorem c__law_step (B : Blt mg) (O__law_labels : Cal P w K mg base "_law_labels" 1 (spO cs m__law_labels 1)) (C__law_labels : Cal P w K mg base "_law_labels" 1 (spD cs (frzM m__law_labels) 1)) (C__law_lots : Cal P w K mg base "_law_lots" 1 (spD cs m__law_lots 1)) (D : Dn K mg "_law_step" s44) : Cal P w K mg base "_law_step" 2 (spD cs m__law_step 2) :=
  cal_dat (N := N__law_step) (ps := ["_law_grouping_here", "_law_step_here"]) (n := 2) (b := b__law_step) (k := 1) D sc__law_step rfl (by decide) hb__law_step (p__law_step B O__law_labels C__law_labels C__law_lots)
/-! _law_steps -/
def q46 : PSigma fun s : Stmt => s = topS 46 := by
  refine ⟨?s, ?h⟩
  case h =>
    conv => rhs; whnf
def s46 : Stmt := q46.1
theorem e46 : s46 = topS 46 := q46.2
abbrev N__law_steps : List Str := ["_law_size", "_law_found", "_law_one", "_law_other"]
theorem sc__law_steps : FnScope N__law_steps ["_law_size"] (defScope s46) := ⟨rfl, rfl, rfl, by decide +kernel, rfl, by decide +kernel, by decide +kernel⟩
theorem hb__law_steps : ∀ (kV doc pm : Value) (an : Option Addr) (cdv ct : Value) (us : List Value), us.length = 1 → bindArgs (PySem.W.fnOf "_law_steps" "_law_steps" (defArgs s46) (defBody s46) (defScope s46) .none kV doc pm an cdv ct) ⟨us, []⟩ = pure ((["_law_size"] : List Str).zip us) :=
  fun _ _ _ _ _ _ us hl => match us, hl with | [_], _ => rfl
def b__law_steps : Fb := (bSeq (bSet 1 (fLc 2 (iSeq asRg (fVar 0)) tYesD (fS gTup (sCons (fVar 2) sNil)))) (bSeq (bFor (iSeq asRg (fVar 0)) (gNm 2) (bSet 1 (b2 gAdd (fVar 1) (fLc 3 (iRg2 (b2 gAdd (fVar 2) (fC (.int 1))) (fVar 0)) tYesD (fS gTup (sCons (fVar 2) (sCons (fVar 3) sNil))))))) (bRet (fS gSorted (sCons (fVar 1) sNil)))))
def m__law_steps : List PyData → Option PyData := mk 1 4 b__law_steps
theorem p__law_steps (B : Blt mg) (f : Addr) (cdv : Value) (A : Around) (outer : List PySem.Env) (s : Shared) (H : Hp) (hr : Room 0 (cxD P w K mg base N__law_steps "_law_steps" s46 f cdv A outer s H).A) :
    PSs (cxD P w K mg base N__law_steps "_law_steps" s46 f cdv A outer s H) (defBody s46) (tDS cs b__law_steps) :=
  (ds_cons (ds_setLc 1 [("_law_one", 2)] rfl sc__law_steps.nd (di_rg1 B.rng (dv 0)) (blk_of (by rfl)) (fun _ _ _ _ _ => pg_name sc__law_steps.nd rfl (Or.inl rfl) (.inr rfl)) (fun _ _ _ _ _ => dts_nil) (fun _ _ _ _ _ => (de_tup (da_cons (dv 2) da_nil))) (sw_true rfl rfl rfl rfl))
  (ds_cons (ds_for (di_rg1 B.rng (dv 0)) (dg_name 2 sc__law_steps.nd) (ds_one (ds_set 1 (de_add (dv 1) (de_lc [("_law_other", 3)] rfl sc__law_steps.nd (di_rg2 B.rng (de_add (dv 2) de_int) (dv 0)) (blk_of (by rfl)) (fun _ _ _ _ _ => pg_name sc__law_steps.nd rfl (Or.inl rfl) (.inr rfl)) (fun _ _ _ _ _ => dts_nil) (fun _ _ _ _ _ => (de_tup (da_cons (dv 2) (da_cons (dv 3) da_nil)))))) sc__law_steps.nd)))
  (ds_one (ds_ret (de_callB (cr_sortedD hr) B.srt boot_sorted (da_cons (dv 1) da_nil))))))
theorem c__law_steps (B : Blt mg) (D : Dn K mg "_law_steps" s46) : Cal P w K mg base "_law_steps" 1 (spD cs m__law_steps 1) :=
  cal_dat (N := N__law_steps) (ps := ["_law_size"]) (n := 1) (b := b__law_steps) (k := 0) D sc__law_steps rfl (by decide) hb__law_steps (p__law_steps B)
/-! _law_groupings -/
def q48 : PSigma fun s : Stmt => s = topS 48 := by
  refine ⟨?s, ?h⟩
  case h =>
    conv => rhs; whnf
def s48 : Stmt := q48.1
theorem e48 : s48 = topS 48 := q48.2
abbrev N__law_groupings : List Str := ["_law_size", "_law_found", "_law_person", "_law_more", "_law_labels_here", "_law_top", "_law_label"]
theorem sc__law_groupings : FnScope N__law_groupings ["_law_size"] (defScope s48) := ⟨rfl, rfl, rfl, by decide +kernel, rfl, by decide +kernel, by decide +kernel⟩
theorem hb__law_groupings : ∀ (kV doc pm : Value) (an : Option Addr) (cdv ct : Value) (us : List Value), us.length = 1 → bindArgs (PySem.W.fnOf "_law_groupings" "_law_groupings" (defArgs s48) (defBody s48) (defScope s48) .none kV doc pm an cdv ct) ⟨us, []⟩ = pure ((["_law_size"] : List Str).zip us) :=
  fun _ _ _ _ _ _ us hl => match us, hl with | [_], _ => rfl
def b__law_groupings : Fb := (bSeq (bSet 1 (fS gLst (sCons (fS gLst sNil) sNil))) (bSeq (bFor (iSeq asRg (fVar 0)) (gNm 2) (bSeq (bSet 3 (fS gLst sNil)) (bSeq (bFor (iSeq asList (fVar 1)) (gNm 4) (bSeq (bSet 5 (b2 gAdd (fS gMax (sCons (b2 gAdd (fVar 4) (fS gLst (sCons (f1 uNeg (fC (.int 1))) sNil))) sNil)) (fC (.int 2)))) (bSet 3 (b2 gAdd (fVar 3) (fLc 6 (iSeq asRg (fVar 5)) tYesD (b2 gAdd (fVar 4) (fS gLst (sCons (fVar 6) sNil)))))))) (bSet 1 (fVar 3))))) (bRet (fS gSorted (sCons (fLc 4 (iSeq asList (fVar 1)) tYesD (fS (gN 1 m__law_lots) (sCons (fVar 4) sNil))) sNil)))))
def m__law_groupings : List PyData → Option PyData := mk 1 7 b__law_groupings
theorem p__law_groupings (B : Blt mg) (C__law_lots : Cal P w K mg base "_law_lots" 1 (spD cs m__law_lots 1)) (f : Addr) (cdv : Value) (A : Around) (outer : List PySem.Env) (s : Shared) (H : Hp) (hr : Room 1 (cxD P w K mg base N__law_groupings "_law_groupings" s48 f cdv A outer s H).A) :
    PSs (cxD P w K mg base N__law_groupings "_law_groupings" s48 f cdv A outer s H) (defBody s48) (tDS cs b__law_groupings) :=
  (ds_cons (ds_set 1 (de_lst (da_cons (de_lst da_nil) da_nil)) sc__law_groupings.nd)
  (ds_cons (ds_for (di_rg1 B.rng (dv 0)) (dg_name 2 sc__law_groupings.nd) (ds_cons (ds_set 3 (de_lst da_nil) sc__law_groupings.nd)
  (ds_cons (ds_for (di_list (dv 1)) (dg_name 4 sc__law_groupings.nd) (ds_cons (ds_set 5 (de_add (de_callB (cr_maxD hr) B.max boot_max (da_cons (de_add (dv 4) (de_lst (da_cons (de_neg de_int) da_nil))) da_nil)) de_int) sc__law_groupings.nd)
  (ds_one (ds_set 3 (de_add (dv 3) (de_lc [("_law_label", 6)] rfl sc__law_groupings.nd (di_rg1 B.rng (dv 5)) (blk_of (by rfl)) (fun _ _ _ _ _ => pg_name sc__law_groupings.nd rfl (Or.inl rfl) (.inr rfl)) (fun _ _ _ _ _ => dts_nil) (fun _ _ _ _ _ => (de_add (dv 4) (de_lst (da_cons (dv 6) da_nil)))))) sc__law_groupings.nd))))
  (ds_one (ds_set 1 (dv 3) sc__law_groupings.nd)))))
  (ds_one (ds_ret (de_callB (cr_sortedD hr) B.srt boot_sorted (da_cons (de_lc [("_law_labels_here", 4)] rfl sc__law_groupings.nd (di_list (dv 1)) (blk_of (by rfl)) (fun _ _ _ _ _ => pg_name sc__law_groupings.nd rfl (Or.inl rfl) (.inr rfl)) (fun _ _ _ _ _ => dts_nil) (fun _ _ _ _ _ => (de_cal C__law_lots (hr.mono (j := 1) (by decide)) (da_cons (dv 4) da_nil)))) da_nil))))))
theorem c__law_groupings (B : Blt mg) (C__law_lots : Cal P w K mg base "_law_lots" 1 (spD cs m__law_lots 1)) (D : Dn K mg "_law_groupings" s48) : Cal P w K mg base "_law_groupings" 2 (spD cs m__law_groupings 1) :=
  cal_dat (N := N__law_groupings) (ps := ["_law_size"]) (n := 1) (b := b__law_groupings) (k := 1) D sc__law_groupings rfl (by decide) hb__law_groupings (p__law_groupings B C__law_lots)
/-! _law_worth -/
def q50 : PSigma fun s : Stmt => s = topS 50 := by
  refine ⟨?s, ?h⟩
  case h =>
    conv => rhs; whnf
def s50 : Stmt := q50.1
theorem e50 : s50 = topS 50 := q50.2
abbrev N__law_worth : List Str := ["_law_grouping_here", "_law_likings_here", "_law_one", "_law_labels_here", "_law_total", "_law_at", "_law_other"]
theorem sc__law_worth : FnScope N__law_worth ["_law_grouping_here", "_law_likings_here"] (defScope s50) := ⟨rfl, rfl, rfl, by decide +kernel, rfl, by decide +kernel, by decide +kernel⟩
theorem hb__law_worth : ∀ (kV doc pm : Value) (an : Option Addr) (cdv ct : Value) (us : List Value), us.length = 2 → bindArgs (PySem.W.fnOf "_law_worth" "_law_worth" (defArgs s50) (defBody s50) (defScope s50) .none kV doc pm an cdv ct) ⟨us, []⟩ = pure ((["_law_grouping_here", "_law_likings_here"] : List Str).zip us) :=
  fun _ _ _ _ _ _ us hl => match us, hl with | [_, _], _ => rfl
def b__law_worth : Fb := (bSeq (bPar3 3 4 5 (sCons (fS (gN 1 (frzM m__law_labels)) (sCons (fVar 0) sNil)) (sCons (fC (.int 0)) (sCons (fC (.int 0)) sNil)))) (bSeq (bFor (iSeq asRg (fS gLen (sCons (fVar 3) sNil))) (gNm 2) (bFor (iRg2 (b2 gAdd (fVar 2) (fC (.int 1))) (fS gLen (sCons (fVar 3) sNil))) (gNm 6) (bPar2 4 5 (sCons (b2 gAdd (fVar 4) (b2 gMul (b2 gIx (fVar 1) (fVar 5)) (fS gInt (sCons (b2 gEq (b2 gIx (fVar 3) (fVar 2)) (b2 gIx (fVar 3) (fVar 6))) sNil)))) (sCons (b2 gAdd (fVar 5) (fC (.int 1))) sNil))))) (bRet (fVar 4))))
def m__law_worth : List PyData → Option PyData := mk 2 7 b__law_worth
theorem p__law_worth (B : Blt mg) (O__law_labels : Cal P w K mg base "_law_labels" 1 (spO cs m__law_labels 1)) (C__law_labels : Cal P w K mg base "_law_labels" 1 (spD cs (frzM m__law_labels) 1)) (f : Addr) (cdv : Value) (A : Around) (outer : List PySem.Env) (s : Shared) (H : Hp) (hr : Room 1 (cxD P w K mg base N__law_worth "_law_worth" s50 f cdv A outer s H).A) :
    PSs (cxD P w K mg base N__law_worth "_law_worth" s50 f cdv A outer s H) (defBody s50) (tDS cs b__law_worth) :=
  (ds_cons (ds_par3 3 4 5 (da_cons (de_cal C__law_labels (hr.mono (j := 1) (by decide)) (da_cons (dv 0) da_nil)) (da_cons de_int (da_cons de_int da_nil))) sc__law_worth.nd)
  (ds_cons (ds_for (di_rg1 B.rng (de_callB cr_len B.len boot_len (da_cons (dv 3) da_nil))) (dg_name 2 sc__law_worth.nd) (ds_one (ds_for (di_rg2 B.rng (de_add (dv 2) de_int) (de_callB cr_len B.len boot_len (da_cons (dv 3) da_nil))) (dg_name 6 sc__law_worth.nd) (ds_one (ds_par2 4 5 (da_cons (de_add (dv 4) (de_mul (de_at (dv 1) (dv 5)) (de_callTy cr_int B.int boot_int (da_cons (de_eq hr (de_at (dv 3) (dv 2)) (de_at (dv 3) (dv 6))) da_nil)))) (da_cons (de_add (dv 5) de_int) da_nil)) sc__law_worth.nd)))))
  (ds_one (ds_ret (dv 4)))))
theorem c__law_worth (B : Blt mg) (O__law_labels : Cal P w K mg base "_law_labels" 1 (spO cs m__law_labels 1)) (C__law_labels : Cal P w K mg base "_law_labels" 1 (spD cs (frzM m__law_labels) 1)) (D : Dn K mg "_law_worth" s50) : Cal P w K mg base "_law_worth" 2 (spD cs m__law_worth 2) :=
  cal_dat (N := N__law_worth) (ps := ["_law_grouping_here", "_law_likings_here"]) (n := 2) (b := b__law_worth) (k := 1) D sc__law_worth rfl (by decide) hb__law_worth (p__law_worth B O__law_labels C__law_labels)
/-! _law_calm -/
def q51 : PSigma fun s : Stmt => s = topS 51 := by
  refine ⟨?s, ?h⟩
  case h =>
    conv => rhs; whnf
def s51 : Stmt := q51.1
theorem e51 : s51 = topS 51 := q51.2
abbrev N__law_calm : List Str := ["_law_grouping_here", "_law_likings_here", "_law_labels_here", "_law_here", "_law_person", "_law_one", "_law_other"]
theorem sc__law_calm : FnScope N__law_calm ["_law_grouping_here", "_law_likings_here"] (defScope s51) := ⟨rfl, rfl, rfl, by decide +kernel, rfl, by decide +kernel, by decide +kernel⟩
theorem hb__law_calm : ∀ (kV doc pm : Value) (an : Option Addr) (cdv ct : Value) (us : List Value), us.length = 2 → bindArgs (PySem.W.fnOf "_law_calm" "_law_calm" (defArgs s51) (defBody s51) (defScope s51) .none kV doc pm an cdv ct) ⟨us, []⟩ = pure ((["_law_grouping_here", "_law_likings_here"] : List Str).zip us) :=
  fun _ _ _ _ _ _ us hl => match us, hl with | [_, _], _ => rfl
def b__law_calm : Fb := (bSeq (bSet 2 (fS (gN 1 (frzM m__law_labels)) (sCons (fVar 0) sNil))) (bSeq (bSet 3 (fS (gN 2 m__law_worth) (sCons (fVar 0) (sCons (fVar 1) sNil)))) (bSeq (bFor (iSeq asRg (fS gLen (sCons (fVar 2) sNil))) (gNm 4) (bIf (fBt (b2 gGt (fS (gN 2 m__law_worth) (sCons (fS (gN 2 m__law_step) (sCons (fVar 0) (sCons (fS gTup (sCons (fVar 4) sNil)) sNil))) (sCons (fVar 1) sNil))) (fVar 3))) (bRet (fC (.bool false))) bNx)) (bSeq (bFor (iSeq asRg (fS gLen (sCons (fVar 2) sNil))) (gNm 5) (bFor (iRg2 (b2 gAdd (fVar 5) (fC (.int 1))) (fS gLen (sCons (fVar 2) sNil))) (gNm 6) (bIf (fBt (b2 gGt (fS (gN 2 m__law_worth) (sCons (fS (gN 2 m__law_step) (sCons (fVar 0) (sCons (fS gTup (sCons (fVar 5) (sCons (fVar 6) sNil))) sNil))) (sCons (fVar 1) sNil))) (fVar 3))) (bRet (fC (.bool false))) bNx))) (bRet (fC (.bool true)))))))
def m__law_calm : List PyData → Option PyData := mk 2 7 b__law_calm
theorem p__law_calm (B : Blt mg) (O__law_labels : Cal P w K mg base "_law_labels" 1 (spO cs m__law_labels 1)) (C__law_labels : Cal P w K mg base "_law_labels" 1 (spD cs (frzM m__law_labels) 1)) (C__law_worth : Cal P w K mg base "_law_worth" 2 (spD cs m__law_worth 2)) (C__law_step : Cal P w K mg base "_law_step" 2 (spD cs m__law_step 2)) (f : Addr) (cdv : Value) (A : Around) (outer : List PySem.Env) (s : Shared) (H : Hp) (hr : Room 2 (cxD P w K mg base N__law_calm "_law_calm" s51 f cdv A outer s H).A) :
    PSs (cxD P w K mg base N__law_calm "_law_calm" s51 f cdv A outer s H) (defBody s51) (tDS cs b__law_calm) :=
  (ds_cons (ds_set 2 (de_cal C__law_labels (hr.mono (j := 1) (by decide)) (da_cons (dv 0) da_nil)) sc__law_calm.nd)
  (ds_cons (ds_set 3 (de_cal C__law_worth (hr.mono (j := 2) (by decide)) (da_cons (dv 0) (da_cons (dv 1) da_nil))) sc__law_calm.nd)
  (ds_cons (ds_for (di_rg1 B.rng (de_callB cr_len B.len boot_len (da_cons (dv 2) da_nil))) (dg_name 4 sc__law_calm.nd) (ds_one (ds_if (dt_gt (de_cal C__law_worth (hr.mono (j := 2) (by decide)) (da_cons (de_cal C__law_step (hr.mono (j := 2) (by decide)) (da_cons (dv 0) (da_cons (de_tup (da_cons (dv 4) da_nil)) da_nil))) (da_cons (dv 1) da_nil))) (dv 3)) (ds_one (ds_ret de_bl)) ds_nil)))
  (ds_cons (ds_for (di_rg1 B.rng (de_callB cr_len B.len boot_len (da_cons (dv 2) da_nil))) (dg_name 5 sc__law_calm.nd) (ds_one (ds_for (di_rg2 B.rng (de_add (dv 5) de_int) (de_callB cr_len B.len boot_len (da_cons (dv 2) da_nil))) (dg_name 6 sc__law_calm.nd) (ds_one (ds_if (dt_gt (de_cal C__law_worth (hr.mono (j := 2) (by decide)) (da_cons (de_cal C__law_step (hr.mono (j := 2) (by decide)) (da_cons (dv 0) (da_cons (de_tup (da_cons (dv 5) (da_cons (dv 6) da_nil))) da_nil))) (da_cons (dv 1) da_nil))) (dv 3)) (ds_one (ds_ret de_bl)) ds_nil)))))
  (ds_one (ds_ret de_bl))))))
theorem c__law_calm (B : Blt mg) (O__law_labels : Cal P w K mg base "_law_labels" 1 (spO cs m__law_labels 1)) (C__law_labels : Cal P w K mg base "_law_labels" 1 (spD cs (frzM m__law_labels) 1)) (C__law_worth : Cal P w K mg base "_law_worth" 2 (spD cs m__law_worth 2)) (C__law_step : Cal P w K mg base "_law_step" 2 (spD cs m__law_step 2)) (D : Dn K mg "_law_calm" s51) : Cal P w K mg base "_law_calm" 3 (spD cs m__law_calm 2) :=
  cal_dat (N := N__law_calm) (ps := ["_law_grouping_here", "_law_likings_here"]) (n := 2) (b := b__law_calm) (k := 2) D sc__law_calm rfl (by decide) hb__law_calm (p__law_calm B O__law_labels C__law_labels C__law_worth C__law_step)
end
end DL

/-! Dm4: the law from its fifth statement on. -/
namespace DL
open PySem PySem.Spec PyProof.Rows L2
section
variable {P : Program} {w : World} {K : PySem.W.Frag} {mg : Str → Option Value} {base : Heap} {cs : Cs}
def q52 : PSigma fun s : Stmt => s = topS 52 := by
  refine ⟨?s, ?h⟩
  case h =>
    conv => rhs; whnf
def s52 : Stmt := q52.1
theorem e52 : s52 = topS 52 := q52.2
abbrev N_law : List Str := ["_law_script", "_law_row_here", "_law_size", "_law_sums", "_law_values", "_law_value", "_law_turn", "_law_likings_here", "_law_some", "_law_start", "_law_many", "_law_best", "_law_found", "_law_due", "_law_steps_here", "_law_here", "_law_word", "_law_tops", "_law_one", "_law_step_here", "_law_k"]
theorem sc_law : FnScope N_law ["_law_script"] (defScope s52) := ⟨rfl, rfl, rfl, by decide +kernel, rfl, by decide +kernel, by decide +kernel⟩
/-- slots: 0 _law_script, 1 _law_row_here, 2 _law_size, 3 _law_sums, 4 _law_values, 5 _law_value, 6 _law_turn, 7 _law_likings_here, 8 _law_some, 9 _law_start, 10 _law_many, 11 _law_best, 12 _law_found, 13 _law_due, 14 _law_steps_here, 15 _law_here, 16 _law_word, 17 _law_tops, 18 _law_one, 19 _law_step_here, 20 _law_k -/
def b_law : Fb := (bSeq (bIf (fNotT (fTru (fS (gN 2 (m__law_alike 6)) (sCons (fS (gN 2 m_worth) (sCons (fVar 9) (sCons (fVar 7) sNil))) (sCons (fS (gN 2 m__law_worth) (sCons (fVar 9) (sCons (fVar 7) sNil))) sNil))))) (bRet (fC (.bool false))) bNx) (bSeq (bSet 3 (fLc 18 (iSeq asList (fVar 8)) tYesD (fS (gN 2 m__law_worth) (sCons (fVar 18) (sCons (fVar 7) sNil))))) (bSeq (bAsg (fS gTup (sCons (fS gMax (sCons (fVar 3) sNil)) (sCons (fS (gN 2 m_best_grouping) (sCons (fVar 2) (sCons (fVar 7) sNil))) sNil))) (gPr 11 12)) (bSeq (bIf (fOrT (fNotT (fTru (f1 (uIs PyData.isTuple) (fVar 12)))) (fOrT (fBt (b2 gNe (fS gLen (sCons (fVar 12) sNil)) (fC (.int 2)))) (fOrT (fBt (b2 gNe (b2 gIx (fVar 12) (fC (.int 0))) (fVar 11))) (fOrT (fBt (b2 gNotIn (b2 gIx (fVar 12) (fC (.int 1))) (fVar 8))) (fBt (b2 gNe (b2 gIx (fVar 3) (b2 gIndex (fVar 8) (b2 gIx (fVar 12) (fC (.int 1))))) (fVar 11))))))) (bRet (fC (.bool false))) bNx) (bSeq (bIf (fNotT (fTru (fS (gN 2 (m__law_alike 6)) (sCons (fS (gN 3 m_best_of_lots) (sCons (fVar 2) (sCons (fVar 7) (sCons (fVar 10) sNil)))) (sCons (fS gMax (sCons (fLc 20 (iSeq asRg (fS gLen (sCons (fVar 8) sNil))) (fBt (b2 gEq (fS gLen (sCons (b2 gIx (fVar 8) (fVar 20)) sNil)) (fVar 10))) (b2 gIx (fVar 3) (fVar 20))) sNil)) sNil))))) (bRet (fC (.bool false))) bNx) (bSeq (bSet 4 (fS gLst (sCons (fVar 12) (sCons (fS gList (sCons (fVar 12) sNil)) (sCons (fS gTup (sCons (fVar 11) (sCons (fS gList (sCons (b2 gIx (fVar 12) (fC (.int 1))) sNil)) sNil))) (sCons (fS gTup (sCons (b2 gAdd (fVar 11) (fC (.int 1))) (sCons (b2 gIx (fVar 12) (fC (.int 1))) sNil))) (sCons (fS gTup (sCons (fVar 11) (sCons (fS gTup sNil) sNil))) (sCons (fC .none) (sCons (fC (.int 3)) (sCons (fS gTup (sCons (fVar 11) (sCons (fS gTup (sCons (fS gTup (sCons (fC (.int 0)) (sCons (fVar 2) sNil))) sNil)) sNil))) sNil)))))))))) (bSeq (bFor (iSeq asList (b2 gAdd (fVar 4) (fLc 18 (iSeq asList (fVar 8)) tYesD (fS gTup (sCons (fVar 11) (sCons (fVar 18) sNil)))))) (gNm 5) (bSeq (bSet 13 (fAnd (f1 (uIs PyData.isTuple) (fVar 5)) (fAnd (b2 gEq (fS gLen (sCons (fVar 5) sNil)) (fC (.int 2))) (fAnd (f1 (uIs PyData.isTuple) (b2 gIx (fVar 5) (fC (.int 1)))) (b2 gIn (b2 gIx (fVar 5) (fC (.int 1))) (fVar 8)))))) (bSeq (bSet 13 (fAnd (fVar 13) (fAnd (b2 gEq (b2 gIx (fVar 5) (fC (.int 0))) (fVar 11)) (b2 gEq (b2 gIx (fVar 3) (b2 gIndex (fVar 8) (b2 gIx (fVar 5) (fC (.int 1))))) (fVar 11))))) (bIf (fNotT (fTru (fS (gN 2 (m__law_alike 6)) (sCons (fS (gN 3 m_shows_best_grouping) (sCons (fVar 2) (sCons (fVar 7) (sCons (fVar 5) sNil)))) (sCons (fVar 13) sNil))))) (bRet (fC (.bool false))) bNx)))) (bSeq (bIf (fNotT (fTru (fS (gN 2 (m__law_alike 6)) (sCons (fS (gN 2 m_is_calm) (sCons (fVar 9) (sCons (fVar 7) sNil))) (sCons (fS (gN 2 m__law_calm) (sCons (fVar 9) (sCons (fVar 7) sNil))) sNil))))) (bRet (fC (.bool false))) bNx) (bSeq (bIf (fNotT (fTru (fS (gN 2 (m__law_alike 6)) (sCons (fS (gN 2 m_calm_ones) (sCons (fVar 2) (sCons (fVar 7) sNil))) (sCons (fS gTuple (sCons (fLc 18 (iSeq asList (fVar 8)) (fTru (fS (gN 2 m__law_calm) (sCons (fVar 18) (sCons (fVar 7) sNil)))) (fVar 18)) sNil)) sNil))))) (bRet (fC (.bool false))) bNx) (bSeq (bTri 14 15 16 (fS (gN 1 m__law_steps) (sCons (fVar 2) sNil)) (fVar 9)) (bSeq (bFor (iSeq asRg (fS gLen (sCons (fVar 8) sNil))) (gNm 6) (bSeq (bSet 17 (fLc 19 (iSeq asList (fVar 14)) tYesD (fS (gN 2 m__law_worth) (sCons (fS (gN 2 m__law_step) (sCons (fVar 15) (sCons (fVar 19) sNil))) (sCons (fVar 7) sNil))))) (bIf (fBt (b2 gGt (fS gMax (sCons (fVar 17) sNil)) (fS (gN 2 m__law_worth) (sCons (fVar 15) (sCons (fVar 7) sNil))))) (bSeq (bApp 16 (b2 gIx (fVar 14) (b2 gIndex (fVar 17) (fS gMax (sCons (fVar 17) sNil))))) (bSet 15 (fS (gN 2 m__law_step) (sCons (fVar 15) (sCons (fAtO 16 (f1 uNeg (fC (.int 1)))) sNil))))) bNx))) (bFrz 16 (bRet (fS (gN 2 (m__law_alike 6)) (sCons (fS (gN 2 m_climb) (sCons (fVar 9) (sCons (fVar 7) sNil))) (sCons (fS gTuple (sCons (fVar 16) sNil)) sNil))))))))))))))))
theorem p_law (B : Blt mg) (C__law_worth : Cal P w K mg base "_law_worth" 2 (spD cs m__law_worth 2)) (C_worth : Cal P w K mg base "worth" 7 (spD cs m_worth 2)) (C__law_alike : Cal P w K mg base "_law_alike" 6 (spD cs (m__law_alike 6) 2)) (C_best_grouping : Cal P w K mg base "best_grouping" 6 (spD cs m_best_grouping 2)) (C_best_of_lots : Cal P w K mg base "best_of_lots" 6 (spD cs m_best_of_lots 3)) (C_shows_best_grouping : Cal P w K mg base "shows_best_grouping" 6 (spD cs m_shows_best_grouping 3)) (C__law_calm : Cal P w K mg base "_law_calm" 3 (spD cs m__law_calm 2)) (C_is_calm : Cal P w K mg base "is_calm" 7 (spD cs m_is_calm 2)) (C_calm_ones : Cal P w K mg base "calm_ones" 6 (spD cs m_calm_ones 2)) (C__law_steps : Cal P w K mg base "_law_steps" 1 (spD cs m__law_steps 1)) (C__law_step : Cal P w K mg base "_law_step" 2 (spD cs m__law_step 2)) (C_climb : Cal P w K mg base "climb" 7 (spD cs m_climb 2)) (f : Addr) (cdv : Value) (A : Around) (outer : List PySem.Env) (s : Shared) (H : Hp) (hr : Room 7 (cxD P w K mg base N_law "law" s52 f cdv A outer s H).A) :
    PSs (cxD P w K mg base N_law "law" s52 f cdv A outer s H) ((defBody s52).drop 4) (tDS cs b_law) :=
  (ds_cons (ds_if (dt_not (dt_val (de_cal C__law_alike (hr.mono (j := 6) (by decide)) (da_cons (de_cal C_worth (hr.mono (j := 7) (by decide)) (da_cons (dv 9) (da_cons (dv 7) da_nil))) (da_cons (de_cal C__law_worth (hr.mono (j := 2) (by decide)) (da_cons (dv 9) (da_cons (dv 7) da_nil))) da_nil))))) (ds_one (ds_ret de_bl)) ds_nil)
  (ds_cons (ds_set 3 (de_lc [("_law_one", 18)] rfl sc_law.nd (di_list (dv 8)) (blk_of (by rfl)) (fun _ _ _ _ _ => pg_name sc_law.nd rfl (Or.inl rfl) (.inr rfl)) (fun _ _ _ _ _ => dts_nil) (fun _ _ _ _ _ => (de_cal C__law_worth (hr.mono (j := 2) (by decide)) (da_cons (dv 18) (da_cons (dv 7) da_nil))))) sc_law.nd)
  (ds_cons (ds_asg (de_tup (da_cons (de_callB (cr_maxD hr) B.max boot_max (da_cons (dv 3) da_nil)) (da_cons (de_cal C_best_grouping (hr.mono (j := 6) (by decide)) (da_cons (dv 2) (da_cons (dv 7) da_nil))) da_nil))) (dg_pair 11 12 sc_law.nd))
  (ds_cons (ds_if (PW.pt (dw_or (dt_not (dt_val (de_isi isiB_tuple B.isi B.tup boot_tuple (dv 12)))) (dw_or (dt_ne hr (de_callB cr_len B.len boot_len (da_cons (dv 12) da_nil)) de_int) (dw_or (dt_ne hr (de_at (dv 12) de_int) (dv 11)) (dw_or (dt_notIn hr (de_at (dv 12) de_int) (dv 8)) (dw_or1 (dt_ne hr (de_at (dv 3) (de_index hr (dv 8) (de_at (dv 12) de_int))) (dv 11)))))))) (ds_one (ds_ret de_bl)) ds_nil)
  (ds_cons (ds_if (dt_not (dt_val (de_cal C__law_alike (hr.mono (j := 6) (by decide)) (da_cons (de_cal C_best_of_lots (hr.mono (j := 6) (by decide)) (da_cons (dv 2) (da_cons (dv 7) (da_cons (dv 10) da_nil)))) (da_cons (de_callB (cr_maxD hr) B.max boot_max (da_cons (de_lc [("_law_k", 20)] rfl sc_law.nd (di_rg1 B.rng (de_callB cr_len B.len boot_len (da_cons (dv 8) da_nil))) (blk_of (by rfl)) (fun _ _ _ _ _ => pg_name sc_law.nd rfl (Or.inl rfl) (.inr rfl)) (fun _ _ _ _ _ => (dts_one (dt_eq hr (de_callB cr_len B.len boot_len (da_cons (de_at (dv 8) (dv 20)) da_nil)) (dv 10)))) (fun _ _ _ _ _ => (de_at (dv 3) (dv 20)))) da_nil)) da_nil))))) (ds_one (ds_ret de_bl)) ds_nil)
  (ds_cons (ds_set 4 (de_lst (da_cons (dv 12) (da_cons (de_callTy cr_list B.lst boot_list (da_cons (dv 12) da_nil)) (da_cons (de_tup (da_cons (dv 11) (da_cons (de_callTy cr_list B.lst boot_list (da_cons (de_at (dv 12) de_int) da_nil)) da_nil))) (da_cons (de_tup (da_cons (de_add (dv 11) de_int) (da_cons (de_at (dv 12) de_int) da_nil))) (da_cons (de_tup (da_cons (dv 11) (da_cons (de_tup da_nil) da_nil))) (da_cons de_non (da_cons de_int (da_cons (de_tup (da_cons (dv 11) (da_cons (de_tup (da_cons (de_tup (da_cons de_int (da_cons (dv 2) da_nil))) da_nil)) da_nil))) da_nil))))))))) sc_law.nd)
  (ds_cons (ds_for (di_list (de_add (dv 4) (de_lc [("_law_one", 18)] rfl sc_law.nd (di_list (dv 8)) (blk_of (by rfl)) (fun _ _ _ _ _ => pg_name sc_law.nd rfl (Or.inl rfl) (.inr rfl)) (fun _ _ _ _ _ => dts_nil) (fun _ _ _ _ _ => (de_tup (da_cons (dv 11) (da_cons (dv 18) da_nil))))))) (dg_name 5 sc_law.nd) (ds_cons (ds_set 13 (de_and (de_isi isiB_tuple B.isi B.tup boot_tuple (dv 5)) (de_and (de_eq hr (de_callB cr_len B.len boot_len (da_cons (dv 5) da_nil)) de_int) (de_and (de_isi isiB_tuple B.isi B.tup boot_tuple (de_at (dv 5) de_int)) (de_one (de_in hr (de_at (dv 5) de_int) (dv 8)))))) sc_law.nd)
  (ds_cons (ds_set 13 (de_and (dv 13) (de_and (de_eq hr (de_at (dv 5) de_int) (dv 11)) (de_one (de_eq hr (de_at (dv 3) (de_index hr (dv 8) (de_at (dv 5) de_int))) (dv 11))))) sc_law.nd)
  (ds_one (ds_if (dt_not (dt_val (de_cal C__law_alike (hr.mono (j := 6) (by decide)) (da_cons (de_cal C_shows_best_grouping (hr.mono (j := 6) (by decide)) (da_cons (dv 2) (da_cons (dv 7) (da_cons (dv 5) da_nil)))) (da_cons (dv 13) da_nil))))) (ds_one (ds_ret de_bl)) ds_nil)))))
  (ds_cons (ds_if (dt_not (dt_val (de_cal C__law_alike (hr.mono (j := 6) (by decide)) (da_cons (de_cal C_is_calm (hr.mono (j := 7) (by decide)) (da_cons (dv 9) (da_cons (dv 7) da_nil))) (da_cons (de_cal C__law_calm (hr.mono (j := 3) (by decide)) (da_cons (dv 9) (da_cons (dv 7) da_nil))) da_nil))))) (ds_one (ds_ret de_bl)) ds_nil)
  (ds_cons (ds_if (dt_not (dt_val (de_cal C__law_alike (hr.mono (j := 6) (by decide)) (da_cons (de_cal C_calm_ones (hr.mono (j := 6) (by decide)) (da_cons (dv 2) (da_cons (dv 7) da_nil))) (da_cons (de_callTy cr_tuple B.tup boot_tuple (da_cons (de_lc [("_law_one", 18)] rfl sc_law.nd (di_list (dv 8)) (blk_of (by rfl)) (fun _ _ _ _ _ => pg_name sc_law.nd rfl (Or.inl rfl) (.inr rfl)) (fun _ _ _ _ _ => (dts_one (dt_val (de_cal C__law_calm (hr.mono (j := 3) (by decide)) (da_cons (dv 18) (da_cons (dv 7) da_nil)))))) (fun _ _ _ _ _ => (dv 18))) da_nil)) da_nil))))) (ds_one (ds_ret de_bl)) ds_nil)
  (ds_cons (ds_tri 14 15 16 (de_cal C__law_steps (hr.mono (j := 1) (by decide)) (da_cons (dv 2) da_nil)) (dv 9) sc_law.nd)
  (ds_cons (ds_for (di_rg1 B.rng (de_callB cr_len B.len boot_len (da_cons (dv 8) da_nil))) (dg_name 6 sc_law.nd) (ds_cons (ds_setLc 17 [("_law_step_here", 19)] rfl sc_law.nd (di_list (dv 14)) (blk_of (by rfl)) (fun _ _ _ _ _ => pg_name sc_law.nd rfl (Or.inl rfl) (.inr rfl)) (fun _ _ _ _ _ => dts_nil) (fun _ _ _ _ _ => (de_cal C__law_worth (hr.mono (j := 2) (by decide)) (da_cons (de_cal C__law_step (hr.mono (j := 2) (by decide)) (da_cons (dv 15) (da_cons (dv 19) da_nil))) (da_cons (dv 7) da_nil)))) (sw_true rfl rfl rfl rfl))
  (ds_one (ds_if (dt_gt (de_callB (cr_maxD hr) B.max boot_max (da_cons (dv 17) da_nil)) (de_cal C__law_worth (hr.mono (j := 2) (by decide)) (da_cons (dv 15) (da_cons (dv 7) da_nil)))) (ds_cons (ds_append 16 (de_at (dv 14) (de_index hr (dv 17) (de_callB (cr_maxD hr) B.max boot_max (da_cons (dv 17) da_nil)))))
  (ds_one (ds_set 15 (de_cal C__law_step (hr.mono (j := 2) (by decide)) (da_cons (dv 15) (da_cons (de_atO 16 (de_neg de_int)) da_nil))) sc_law.nd))) ds_nil))))
  (ds_one (ds_frz 16 (ds_ret (de_cal C__law_alike (hr.mono (j := 6) (by decide)) (da_cons (de_cal C_climb (hr.mono (j := 7) (by decide)) (da_cons (dv 9) (da_cons (dv 7) da_nil))) (da_cons (de_callTy cr_tuple B.tup boot_tuple (da_cons (dv 16) da_nil)) da_nil)))))))))))))))))
end
end DL

/-! Dt: the drawing defs of the law text. -/
namespace DL
open PySem PySem.Spec PyProof.Rows L2
/-- the row: the script, its place, the mixed number, a great cell's rest -/
def Row (H : Hp) (rw a : Addr) : Prop := ∃ k st rest : Int, H rw = some (.lst [.ref a, .int k, .int st, .int rest]) ∧ 0 ≤ k ∧ 0 ≤ st ∧ st < 2147483647 ∧ 0 ≤ rest
def spTaken (K : PySem.W.Frag) : Sp := fun vs H Q _ => ∃ (rw a : Addr) (ns : List Int) (m : Int), vs = [.ref rw, .int m] ∧ Row H rw a ∧ SqL K H a (ns.map V.int) ∧ (rw ≠ a ∨ ∀ H', SqL K H' a (ns.map V.int)) ∧ ns.length ≤ 63 ∧ 0 < m ∧ m < 1000 ∧
  ∀ (r k st rest : Int), 0 ≤ r → r < m → 0 ≤ k → 0 ≤ st → st < 2147483647 → 0 ≤ rest → Q (.int r) (upd H rw (.lst [.ref a, .int k, .int st, .int rest]))
theorem sqL_upd {K : PySem.W.Frag} {H : Hp} {rw a : Addr} {xs : List V} {o : HO} (h : SqL K H a xs) (ne : rw ≠ a ∨ ∀ H', SqL K H' a xs) : SqL K (upd H rw o) a xs := by
  rcases ne with ne | all
  · rcases h with h | h
    · rcases h with h | ⟨ob, h⟩
      · exact .inl (.inl (by rw [upd_ne (Ne.symm ne)]; exact h))
      · exact .inl (.inr ⟨ob, by rw [upd_ne (Ne.symm ne)]; exact h⟩)
    · exact .inr h
  · exact all _
def q38 : PSigma fun s : Stmt => s = topS 38 := by
  refine ⟨?s, ?h⟩
  case h =>
    conv => rhs; whnf
def s38 : Stmt := q38.1
theorem e38 : s38 = topS 38 := q38.2
abbrev N__law_taken : List Str := ["_law_row_here", "_law_many", "_law_found", "_law_cell"]
theorem sc__law_taken : FnScope N__law_taken ["_law_row_here", "_law_many"] (defScope s38) := ⟨rfl, rfl, rfl, by decide +kernel, rfl, by decide +kernel, by decide +kernel⟩
theorem hb__law_taken : ∀ (kV doc pm : Value) (an : Option Addr) (cdv ct : Value) (us : List Value), us.length = 2 → bindArgs (PySem.W.fnOf "_law_taken" "_law_taken" (defArgs s38) (defBody s38) (defScope s38) .none kV doc pm an cdv ct) ⟨us, []⟩ = pure ((["_law_row_here", "_law_many"] : List Str).zip us) :=
  fun _ _ _ _ _ _ us hl => match us, hl with | [_, _], _ => rfl
section
variable {P : Program} {w : World} {K : PySem.W.Frag} {mg : Str → Option Value} {base : Heap} {cs : Cs}
/-- a def by hand -/
theorem cal_hand {x : Str} {st : Stmt} {N ps : List Str} {k : Nat} {sp : Sp} (D : Dn K mg x st) (S : FnScope N ps (defScope st)) (len : ∀ vs H Q E, sp vs H Q E → vs.length = ps.length)
    (hbd : ∀ (kV doc pm : Value) (an : Option Addr) (cdv ct : Value) (us : List Value), us.length = ps.length → bindArgs (PySem.W.fnOf x x (defArgs st) (defBody st) (defScope st) .none kV doc pm an cdv ct) ⟨us, []⟩ = pure (ps.zip us))
    (body : ∀ (f : Addr) (cdv : Value) (A : Around) (outer : List PySem.Env) (s : Shared) (H : Hp) (vs : List V) (Q : VK) (E : XK), Room k (cxD P w K mg base N x st f cdv A outer s H).A → sp vs H Q E →
      ∃ t, PSs (cxD P w K mg base N x st f cdv A outer s H) (defBody st) t ∧ t { nx := fun _ H' => Q .non H', rt := Q } (L2.start N vs) H) : Cal P w K mg base x (k + 1) sp := by
  obtain ⟨f, fd, F, hm⟩ := D
  obtain ⟨oc, od, dV, kV, doc, pm, an, cdv, ct, osl, efd, lk, hcd, _, _⟩ := id F.ex
  refine ⟨f, fd, ps, ?_, hm, F.kp, F.bindsN hbd⟩
  subst efd
  refine fn_of lk hcd S len (fun A outer s H vs Q E hr h => ?_)
  obtain ⟨t, h1, h2⟩ := body f cdv A outer s H vs Q E hr h
  exact ⟨t, h1.nox, h2⟩
theorem rd_row {H : Hp} {rw : Addr} {xs : List V} {i : Int} {v : V} {Q : VK} (h : H rw = some (.lst xs)) (hv : atI xs i = some v) (q : Q v H) : rIxL K (.ref rw) (.int i) H Q := ⟨rw, xs, i, v, rfl, rfl, SqL.of h, hv, q⟩
theorem c__law_taken (B : Blt mg) (D : Dn K mg "_law_taken" s38) : Cal P w K mg base "_law_taken" 1 (spTaken K) := by
  refine cal_hand (k := 0) D sc__law_taken (fun vs H Q E h => ?_) hb__law_taken fun f cdv A outer s H vs Q E hr h => ?_
  · obtain ⟨_, _, _, _, rfl, _⟩ := h
    rfl
  obtain ⟨rw, a, ns, m, rfl, ⟨k, st, rest, hrw, hk, hst, hst2, hrest⟩, hS, hne, hlen, hm, hm2, q⟩ := h
  have lt1000 : m < 1073741824 := by omega
  refine ⟨_, pss_cons (ps_if (pt_cmpR op_gt (pe_ix ix_list (pv 0) pe_int (fun _ _ => rfl)) pe_int (nomark _))
      (pss_cons (ps_set (i := 2) sc__law_taken.nd rfl (Or.inl rfl) (pe_op op_mod (pe_callTy call_int1 rfl B.int boot_int (pa_cons (pe_ix ix_list (pv 0) pe_int (fun _ _ => rfl)) pa_nil)) (pv 1)))
        (pss_cons (ps_asg (pe_op op_fdiv (pe_ix ix_list (pv 0) pe_int (fun _ _ => rfl)) (pv 1)) (pg_sub (pv 0) pe_int set_list)) (pss_one (ps_ret (pv 2))))) pss_nil)
    (pss_cons (ps_asg (pe_op op_add (pe_ix ix_list (pv 0) pe_int (fun _ _ => rfl)) pe_int) (pg_sub (pv 0) pe_int set_list))
    (pss_cons (ps_if (pt_cmpR op_gt (pe_ix ix_list (pv 0) pe_int (fun _ _ => rfl)) (pe_callB call_len_seq rfl B.len PySem.boot_len (pa_cons (pe_ix ix_list (pv 0) pe_int (fun _ _ => rfl)) pa_nil)) (nomark _))
      (pss_cons (ps_asg (pe_op op_mod (pe_callTy call_int1 rfl B.int boot_int (pa_cons (pe_op op_add (pe_op op_mul (pe_ix ix_list (pv 0) pe_int (fun _ _ => rfl)) pe_int) pe_int) pa_nil)) pe_int) (pg_sub (pv 0) pe_int set_list))
        (pss_one (ps_ret (pe_op op_mod (pe_callTy call_int1 rfl B.int boot_int (pa_cons (pe_op op_fdiv (pe_ix ix_list (pv 0) pe_int (fun _ _ => rfl)) pe_int) pa_nil)) (pv 1))))) pss_nil)
    (pss_cons (ps_set (i := 3) sc__law_taken.nd rfl (Or.inl rfl) (pe_ix ix_list (pe_ix ix_list (pv 0) pe_int (fun _ _ => rfl)) (pe_op op_sub (pe_ix ix_list (pv 0) pe_int (fun _ _ => rfl)) pe_int) (fun _ _ => rfl)))
    (pss_cons (ps_asg (pe_op op_mod (pe_callTy call_int1 rfl B.int boot_int (pa_cons (pe_op op_add (pe_op op_add (pe_op op_mul (pe_ix ix_list (pv 0) pe_int (fun _ _ => rfl)) pe_int) (pv 3)) pe_int) pa_nil)) pe_int) (pg_sub (pv 0) pe_int set_list))
    (pss_cons (ps_if (pt_cmpR op_ge (pv 3) (pe_op op_pow pe_int pe_int) (nomark _))
      (pss_one (ps_asg (pe_op op_fdiv (pv 3) (pv 1)) (pg_sub (pv 0) pe_int set_list))) pss_nil)
    (pss_one (ps_ret (pe_op op_mod (pe_callTy call_int1 rfl B.int boot_int (pa_cons (pv 3) pa_nil)) (pv 1))))))))), ?_⟩
  have mod1 : ∀ x : Int, 0 ≤ x % m ∧ x % m < m := fun x => ⟨Int.emod_nonneg _ (by omega), Int.emod_lt_of_pos _ hm⟩
  have mod2 : ∀ x : Int, 0 ≤ x % 2147483647 ∧ x % 2147483647 < 2147483647 := fun x => ⟨by omega, by omega⟩
  refine ⟨.ref rw, rfl, rw, _, _, _, rfl, rfl, SqL.of hrw, rfl, ⟨rest, 0, rfl, rfl, decide (0 < rest), rfl, ?_⟩⟩
  by_cases h1 : 0 < rest
  · rw [decide_eq_true h1]
    refine iteT ?_
    refine ⟨.ref rw, rfl, rw, _, _, _, rfl, rfl, SqL.of hrw, rfl, (.inl ⟨rest, rfl, .int m, rfl, rest, m, rfl, rfl, hm, ?_⟩)⟩
    refine ⟨.ref rw, rfl, rw, _, _, _, rfl, rfl, SqL.of hrw, rfl, ⟨.int m, rfl, rest, m, rfl, rfl, ⟨hm, lt1000⟩, ?_⟩⟩
    refine ⟨.ref rw, rfl, rw, _, 3, 3, rfl, rfl, hrw, rfl, ?_⟩
    refine ⟨.int (rest % m), rfl, ?_⟩
    exact q _ k st (rest / m) (mod1 rest).1 (mod1 rest).2 hk hst hst2 (Int.ediv_nonneg hrest (by omega))
  · rw [decide_eq_false h1]
    refine iteF ?_
    refine ⟨.ref rw, rfl, rw, _, _, _, rfl, rfl, SqL.of hrw, rfl, ⟨k, 1, rfl, rfl, ?_⟩⟩
    refine ⟨.ref rw, rfl, rw, _, 1, 1, rfl, rfl, hrw, rfl, ?_⟩
    generalize hH1 : upd H rw (.lst ([V.ref a, .int k, .int st, .int rest].set 1 (.int (k + 1)))) = H1
    have hrw1 : H1 rw = some (.lst [.ref a, .int (k + 1), .int st, .int rest]) := by rw [← hH1]; exact upd_same
    have hS1 : SqL K H1 a (ns.map V.int) := by rw [← hH1]; exact sqL_upd hS hne
    have up1 : ∀ o, upd H1 rw o = upd H rw o := fun o => by rw [← hH1]; exact upd_upd
    have hl : (ns.map V.int).length = ns.length := List.length_map ..
    refine ⟨.ref rw, rfl, rw, _, _, _, rfl, rfl, SqL.of hrw1, rfl, ⟨.ref rw, rfl, rw, _, _, _, rfl, rfl, SqL.of hrw1, rfl, ⟨a, ns.map V.int, rfl, .inl hS1, ?_⟩⟩⟩
    rw [hl]
    refine ⟨k + 1, (ns.length : Int), rfl, rfl, decide ((ns.length : Int) < k + 1), rfl, ?_⟩
    by_cases h2 : (ns.length : Int) < k + 1
    · rw [decide_eq_true h2]
      refine iteT ?_
      refine ⟨.ref rw, rfl, rw, _, _, _, rfl, rfl, SqL.of hrw1, rfl, ⟨st, 48271, rfl, rfl, .inl ⟨by omega, by omega⟩, ⟨st * 48271, 11, rfl, rfl, .inl ⟨st * 48271 + 11, rfl, ⟨st * 48271 + 11, 2147483647, rfl, rfl, by omega, ?_⟩⟩⟩⟩⟩
      refine ⟨.ref rw, rfl, rw, _, 2, 2, rfl, rfl, hrw1, rfl, ?_⟩
      obtain ⟨z1, z2⟩ := mod2 (st * 48271 + 11)
      dsimp only
      generalize (st * 48271 + 11) % 2147483647 = st2 at z1 z2
      generalize hH2 : upd H1 rw (.lst ([V.ref a, .int (k + 1), .int st, .int rest].set 2 (.int st2))) = H2
      have hrw2 : H2 rw = some (.lst [.ref a, .int (k + 1), .int st2, .int rest]) := by rw [← hH2]; exact upd_same
      refine ⟨.ref rw, rfl, rw, _, _, _, rfl, rfl, SqL.of hrw2, rfl, ⟨st2, 7, rfl, rfl, ⟨by omega, by omega⟩, .inl ⟨st2 / 7, rfl, .int m, rfl, st2 / 7, m, rfl, rfl, hm, ?_⟩⟩⟩
      rw [← hH2, up1]
      exact q _ (k + 1) st2 rest (mod1 _).1 (mod1 _).2 (by omega) z1 z2 hrest
    · rw [decide_eq_false h2]
      refine iteF ?_
      have hk2 : k.toNat < ns.length := by omega
      have hat : atI (ns.map V.int) (k + 1 - 1) = some (.int ns[k.toNat]) := by
        unfold atI ixN
        rw [hl]
        have e0 : k + 1 - 1 = k := by omega
        rw [e0, if_pos hk, if_pos (by omega)]
        show (ns.map V.int)[k.toNat]? = _
        rw [List.getElem?_map, List.getElem?_eq_getElem hk2] <;> rfl
      refine ⟨.ref rw, rfl, rw, _, _, _, rfl, rfl, SqL.of hrw1, rfl, ⟨.ref rw, rfl, rw, _, _, _, rfl, rfl, SqL.of hrw1, rfl, ⟨k + 1, 1, rfl, rfl, ?_⟩⟩⟩
      refine ⟨a, ns.map V.int, k + 1 - 1, .int ns[k.toNat], rfl, rfl, hS1, hat, ?_⟩
      generalize ns[k.toNat] = cell
      refine ⟨.ref rw, rfl, rw, _, _, _, rfl, rfl, SqL.of hrw1, rfl, ⟨st, 48271, rfl, rfl, .inl ⟨by omega, by omega⟩, ?_⟩⟩
      refine ⟨.int cell, rfl, st * 48271, cell, rfl, rfl, ?_⟩
      refine ⟨st * 48271 + cell, 11, rfl, rfl, .inl ⟨st * 48271 + cell + 11, rfl, ?_⟩⟩
      refine ⟨st * 48271 + cell + 11, 2147483647, rfl, rfl, by omega, ?_⟩
      refine ⟨.ref rw, rfl, rw, _, 2, 2, rfl, rfl, hrw1, rfl, ?_⟩
      obtain ⟨z1, z2⟩ := mod2 (st * 48271 + cell + 11)
      dsimp only
      generalize (st * 48271 + cell + 11) % 2147483647 = st2 at z1 z2
      generalize hH2 : upd H1 rw (.lst ([V.ref a, .int (k + 1), .int st, .int rest].set 2 (.int st2))) = H2
      have hrw2 : H2 rw = some (.lst [.ref a, .int (k + 1), .int st2, .int rest]) := by rw [← hH2]; exact upd_same
      have up2 : ∀ o, upd H2 rw o = upd H rw o := fun o => by rw [← hH2, upd_upd]; exact up1 o
      have up2' : upd H rw (.lst [.ref a, .int (k + 1), .int st2, .int rest]) = H2 := by rw [← hH2, up1] <;> rfl
      refine ⟨.int cell, rfl, 10, 18, rfl, rfl, ⟨by omega, by omega, by decide⟩, ?_⟩
      refine ⟨cell, (10 : Int) ^ (18 : Int).toNat, rfl, rfl, decide ((10 : Int) ^ (18 : Int).toNat ≤ cell), rfl, ?_⟩
      by_cases h3 : (10 : Int) ^ (18 : Int).toNat ≤ cell
      · rw [decide_eq_true h3]
        refine iteT ?_
        have hc : 0 ≤ cell := by
          have e : (10 : Int) ^ (18 : Int).toNat = 1000000000000000000 := by decide
          rw [e] at h3
          omega
        refine ⟨.int cell, rfl, .int m, rfl, cell, m, rfl, rfl, ⟨hm, lt1000⟩, ?_⟩
        refine ⟨.ref rw, rfl, rw, _, 3, 3, rfl, rfl, hrw2, rfl, ?_⟩
        refine ⟨.int cell, rfl, .inl ⟨cell, rfl, .int m, rfl, cell, m, rfl, rfl, hm, ?_⟩⟩
        rw [up2]
        exact q _ (k + 1) st2 (cell / m) (mod1 _).1 (mod1 _).2 (by omega) z1 z2 (Int.ediv_nonneg hc (by omega))
      · rw [decide_eq_false h3]
        refine iteF ?_
        refine ⟨.int cell, rfl, .inl ⟨cell, rfl, .int m, rfl, cell, m, rfl, rfl, hm, ?_⟩⟩
        rw [← up2']
        exact q _ (k + 1) st2 rest (mod1 _).1 (mod1 _).2 (by omega) z1 z2 hrest
end
end DL

/-! Dt2: _law_pick, _law_likings. -/
namespace DL
open PySem PySem.Spec PyProof.Rows L2
/-- the row as drawings leave it -/
def rowO (a : Addr) (k st rest : Int) : HO := .lst [.ref a, .int k, .int st, .int rest]
def RowOk (k st rest : Int) : Prop := 0 ≤ k ∧ 0 ≤ st ∧ st < 2147483647 ∧ 0 ≤ rest
def spPick (K : PySem.W.Frag) (cs : Cs) : Sp := fun vs H Q _ => ∃ (G : Hp) (rw a : Addr) (ns : List Int) (t : V) (ds : List PyData), vs = [.ref rw, t] ∧ Row H rw a ∧ SqL K H a (ns.map V.int) ∧ (rw ≠ a ∨ ∀ H', SqL K H' a (ns.map V.int)) ∧ ns.length ≤ 63 ∧ Wd cs G H ∧ G rw = none ∧ Rp G t (.list ds) ∧ 0 < ds.length ∧ ds.length < 1000 ∧
  ∀ (k st rest : Int) (d : PyData) (v : V), RowOk k st rest → d ∈ ds → Rp G v d → Q v (upd H rw (rowO a k st rest))
def spLik (K : PySem.W.Frag) : Sp := fun vs H Q _ => ∃ (rw a : Addr) (ns : List Int) (n : Int), vs = [.ref rw, .int n] ∧ Row H rw a ∧ SqL K H a (ns.map V.int) ∧ (rw ≠ a ∨ ∀ H', SqL K H' a (ns.map V.int)) ∧ ns.length ≤ 63 ∧ 1 ≤ n ∧ n ≤ 4 ∧
  ∀ (zs : List Int) (H' : Hp) (t : Addr), (zs.length : Int) = n * (n - 1) / 2 → (∀ z ∈ zs, -7 ≤ z ∧ z ≤ 7) → Row H' rw a → (∀ b o, H b = some o → b ≠ rw → H' b = some o) → H t = none → H' t = some (.tup (zs.map V.int)) → Q (.ref t) H'
def q39 : PSigma fun s : Stmt => s = topS 39 := by
  refine ⟨?s, ?h⟩
  case h =>
    conv => rhs; whnf
def s39 : Stmt := q39.1
theorem e39 : s39 = topS 39 := q39.2
abbrev N__law_pick : List Str := ["_law_row_here", "_law_things"]
theorem sc__law_pick : FnScope N__law_pick ["_law_row_here", "_law_things"] (defScope s39) := ⟨rfl, rfl, rfl, by decide +kernel, rfl, by decide +kernel, by decide +kernel⟩
theorem hb__law_pick : ∀ (kV doc pm : Value) (an : Option Addr) (cdv ct : Value) (us : List Value), us.length = 2 → bindArgs (PySem.W.fnOf "_law_pick" "_law_pick" (defArgs s39) (defBody s39) (defScope s39) .none kV doc pm an cdv ct) ⟨us, []⟩ = pure ((["_law_row_here", "_law_things"] : List Str).zip us) :=
  fun _ _ _ _ _ _ us hl => match us, hl with | [_, _], _ => rfl
def q49 : PSigma fun s : Stmt => s = topS 49 := by
  refine ⟨?s, ?h⟩
  case h =>
    conv => rhs; whnf
def s49 : Stmt := q49.1
theorem e49 : s49 = topS 49 := q49.2
abbrev N__law_likings : List Str := ["_law_row_here", "_law_size", "_law_k"]
theorem sc__law_likings : FnScope N__law_likings ["_law_row_here", "_law_size"] (defScope s49) := ⟨rfl, rfl, rfl, by decide +kernel, rfl, by decide +kernel, by decide +kernel⟩
theorem hb__law_likings : ∀ (kV doc pm : Value) (an : Option Addr) (cdv ct : Value) (us : List Value), us.length = 2 → bindArgs (PySem.W.fnOf "_law_likings" "_law_likings" (defArgs s49) (defBody s49) (defScope s49) .none kV doc pm an cdv ct) ⟨us, []⟩ = pure ((["_law_row_here", "_law_size"] : List Str).zip us) :=
  fun _ _ _ _ _ _ us hl => match us, hl with | [_, _], _ => rfl
section
variable {P : Program} {w : World} {K : PySem.W.Frag} {mg : Str → Option Value} {base : Heap} {cs : Cs}
theorem yes_if {σ : L2.St} {H : Hp} {A B : Hp → Prop} (h : A H) : tYes σ H fun b H3 => if b = true then A H3 else B H3 := by
  show if true = true then A H else B H
  rw [if_pos rfl]
  exact h
theorem c__law_pick (B : Blt mg) (D : Dn K mg "_law_pick" s39) (C : Cal P w K mg base "_law_taken" 1 (spTaken K)) : Cal P w K mg base "_law_pick" 2 (spPick K cs) := by
  refine cal_hand (k := 1) D sc__law_pick (fun vs H Q E h => ?_) hb__law_pick fun f cdv A outer s H vs Q E hr h => ?_
  · obtain ⟨_, _, _, _, _, _, rfl, _⟩ := h
    rfl
  obtain ⟨G, rw, a, ns, t, ds, rfl, hrow, hS, hne, hlen, wd, gr, rt, hd, hd2, q⟩ := h
  obtain ⟨b, vs, rfl, gb, rv⟩ := rt.list_inv
  obtain ⟨f1, fd1, ps1, F, hm, hk, hb⟩ := C
  have nb : b ≠ rw := fun z => by rw [z, gr] at gb; cases gb
  have hl := rv.length
  refine ⟨_, pss_one (ps_ret (pe_ix ix_list (pv 1) (pe_call F hr rfl hm hk hb .nil pass0 (pa_cons (pv 0) (pa_cons (pe_callB call_len_seq rfl B.len PySem.boot_len (pa_cons (pv 1) pa_nil)) pa_nil))) (fun _ _ => rfl))), ?_⟩
  refine ⟨.ref b, rfl, .ref rw, rfl, .ref b, rfl, b, vs, rfl, .inl (SqL.of (wd.sub _ _ gb)), ?_⟩
  refine ⟨rw, a, ns, (vs.length : Int), rfl, hrow, hS, hne, hlen, by rw [hl]; omega, by rw [hl]; omega, fun r k st rest h1 h2 h3 h4 h5 h6 => ?_⟩
  have hi : r.toNat < ds.length := by rw [← hl]; omega
  obtain ⟨v, hv, rr⟩ := rv.get (List.getElem?_eq_getElem hi)
  refine ⟨b, vs, r, v, rfl, rfl, SqL.of (by rw [upd_ne nb]; exact wd.sub _ _ gb), ?_, ?_⟩
  · unfold atI ixN
    rw [if_pos h1, if_pos (by omega)]
    exact hv
  · exact q k st rest _ v ⟨h3, h4, h5, h6⟩ (List.getElem_mem hi) rr
theorem c__law_likings (B : Blt mg) (D : Dn K mg "_law_likings" s49) (C : Cal P w K mg base "_law_taken" 1 (spTaken K)) : Cal P w K mg base "_law_likings" 2 (spLik K) := by
  refine cal_hand (k := 1) D sc__law_likings (fun vs H Q E h => ?_) hb__law_likings fun f cdv A outer s H vs Q E hr h => ?_
  · obtain ⟨_, _, _, _, rfl, _⟩ := h
    rfl
  obtain ⟨rw, a, ns, n, rfl, hrow, hS, hne, hlen, hn1, hn4, q⟩ := h
  obtain ⟨f1, fd1, ps1, F, hm, hk, hb⟩ := C
  have big : -1000 ≤ n * (n - 1) / 2 ∧ n * (n - 1) / 2 ≤ 1000 ∧ 0 ≤ n * (n - 1) / 2 := by
    have h : n = 1 ∨ n = 2 ∨ n = 3 ∨ n = 4 := by omega
    rcases h with rfl | rfl | rfl | rfl <;> decide
  refine ⟨_, pss_one (ps_ret (pe_callTy call_tuple_of rfl B.tup boot_tuple (pa_cons (pe_lc rfl sc__law_likings.nd (pi_range1 rfl B.rng (pa_cons (pe_op op_fdiv (pe_op op_mul (pv 1) (pe_op op_sub (pv 1) pe_int)) pe_int) pa_nil) rfl) (blk_of (own := [("_law_k", 2)]) (by rfl))
    (fun _ _ _ _ _ => pg_name (i := 2) sc__law_likings.nd rfl (Or.inl rfl) (.inr rfl)) (fun _ _ _ _ _ => pts_nil) (fun _ _ _ _ _ => pe_op op_sub (pe_call F hr rfl hm hk hb .nil pass0 (pa_cons (pv 0) (pa_cons pe_int pa_nil))) pe_int)) pa_nil))), ?_⟩
  refine ⟨.int n, rfl, .int n, rfl, n, 1, rfl, rfl, n, n - 1, rfl, rfl, .inl ⟨by omega, by omega⟩, n * (n - 1), 2, rfl, rfl, ⟨by omega, by omega⟩, ?_⟩
  refine ⟨n * (n - 1) / 2, rfl, by omega, by omega, fun D hD => ?_⟩
  obtain ⟨k0, st0, rest0, hrw, hr1, hr2, hr3, hr4⟩ := id hrow
  have nDr : D ≠ rw := fun z => by rw [z, hrw] at hD; cases hD
  refine lc_range (fun i H' => ∃ zs : List Int, zs.length = i ∧ (∀ z ∈ zs, -7 ≤ z ∧ z ≤ 7) ∧ H' D = some (.lst (zs.map V.int)) ∧ Row H' rw a ∧ ∀ b o, H b = some o → b ≠ rw → H' b = some o)
    ⟨[], rfl, fun z hz => absurd hz (by simp), upd_same, ⟨k0, st0, rest0, by rw [upd_ne (Ne.symm nDr)]; exact hrw, hr1, hr2, hr3, hr4⟩, fun b o e ne => by rw [upd_ne (ne_of_none e hD)]; exact e⟩ ?_ ?_
  · rintro i H1 hi ⟨zs, z1, z2, z3, z4, z5⟩
    refine ⟨rfl, yes_if ?_⟩
    refine ⟨.ref rw, rfl, ?_⟩
    have hS1 : SqL K H1 a (ns.map V.int) := by
      rcases hne with hne | all
      · rcases hS with h | h
        · rcases h with h | ⟨ob, h⟩
          · exact .inl (.inl (z5 _ _ h (Ne.symm hne)))
          · exact .inl (.inr ⟨ob, z5 _ _ h (Ne.symm hne)⟩)
        · exact .inr h
      · exact all _
    refine ⟨rw, a, ns, 15, rfl, z4, hS1, hne, hlen, by omega, by omega, fun r k st rest h1 h2 h3 h4 h5 h6 => ?_⟩
    refine ⟨r, 7, rfl, rfl, zs.map V.int, by rw [upd_ne nDr]; exact z3, ?_, ?_⟩
    · rw [List.length_map, z1, sizeLine_eq]
      omega
    · refine ⟨zs ++ [r - 7], by rw [List.length_append, z1]; rfl, fun z hz => ?_, ?_, ⟨k, st, rest, by rw [upd_ne (Ne.symm nDr)]; exact upd_same, h3, h4, h5, h6⟩, fun b o e ne => ?_⟩
      · rcases List.mem_append.mp hz with y | y
        · exact z2 z y
        · rw [List.mem_singleton.mp y]; omega
      · rw [upd_same, List.map_append] <;> rfl
      · have hb : b ≠ D := fun y => by rw [y, hD] at e; cases e
        rw [upd_ne hb, upd_ne ne]
        exact z5 b o e ne
  · rintro H1 ⟨zs, z1, z2, z3, z4, z5⟩
    refine ⟨D, zs.map V.int, rfl, .inl ⟨SqL.of z3, fun l hl => ?_⟩⟩
    have lr : rw ≠ l := fun y => by
      obtain ⟨k, st, rest, e, _⟩ := z4
      rw [y, hl] at e
      cases e
    refine q zs _ l (by rw [z1]; omega) z2 ?_ (fun b o e ne => ?_) ?_ upd_same
    · obtain ⟨k, st, rest, e, r1⟩ := z4
      exact ⟨k, st, rest, by rw [upd_ne lr]; exact e, r1⟩
    · have hb : b ≠ l := fun y => by
        have := z5 b o e ne
        rw [y, hl] at this
        cases this
      rw [upd_ne hb]
      exact z5 b o e ne
    · cases y : H l with
      | none => rfl
      | some o =>
        have := z5 l o y (Ne.symm lr)
        rw [hl] at this
        cases this
end
end DL

/-! Dw: the law. -/
namespace DL
open PySem PySem.Spec PyProof.Rows L2
/-- the slots behind the law's fourth statement -/
def envL (n : Int) (zs : List Int) (GS : List PyData) (g : PyData) (m : Int) : SE :=
  [.no, .no, .dat (.int n), .no, .no, .no, .no, .dat (.tuple (zs.map .int)), .dat (.list GS), .dat g, .dat (.int m), .no, .no, .no, .no, .no, .no, .no, .no, .no, .no]
/-- what the plain part gives -/
def Plain : Prop := ∀ (n : Int) (zs : List Int), 1 ≤ n → n ≤ 4 → (zs.length : Int) = n * (n - 1) / 2 → (∀ z ∈ zs, -7 ≤ z ∧ z ≤ 7) →
  ∃ GS : List PyData, m__law_groupings [.int n] = some (.list GS) ∧ 0 < GS.length ∧ GS.length < 1000 ∧ ∀ g ∈ GS, ∀ m : Int, 1 ≤ m → m ≤ n → b_law (envL n zs GS g m) = some (.rt (.dat (.bool true)))
def spLaw (K : PySem.W.Frag) (cs : Cs) : Sp := fun vs H Q _ => ∃ (a : Addr) (ns : List Int), vs = [.ref a] ∧ ns.length ≤ 63 ∧ (∀ p ∈ cs, H p.2 = some (.tbl #[])) ∧ SqL K H a (ns.map V.int) ∧ ∀ H', Q (.bl true) H'
section
variable {cs : Cs} {G0 H0 G H H' : Hp} {rw : Addr}
theorem ext_row (x : Ext cs G0 H0 G H) (h0 : H0 rw = none) (g : G rw = none) {xs : List V} (h : H rw = some (.lst xs)) (o : HO) : Ext cs G0 H0 G (upd H rw o) := by
  have nt : ¬ Tab cs rw := x.wd.notTab_of h fun ps z => by cases z
  refine ⟨⟨fun b u e => ?_, fun b t => ?_, x.wd.out⟩, fun b u e t => ?_, x.old, x.new⟩
  · have hb : b ≠ rw := fun z => by rw [z, g] at e; cases e
    rw [upd_ne hb]; exact x.wd.sub _ _ e
  · have hb : b ≠ rw := fun z => nt (z ▸ t)
    obtain ⟨ps, e2, q2⟩ := x.wd.tab b t
    exact ⟨ps, by rw [upd_ne hb]; exact e2, q2⟩
  · have hb : b ≠ rw := fun z => by rw [z, h0] at e; cases e
    rw [upd_ne hb]; exact x.keep _ _ e t
/-- the heap behind a drawing that laid t -/
theorem ext_lik (x : Ext cs G0 H0 G H) (h0 : H0 rw = none) (g : G rw = none) {xs : List V} (h : H rw = some (.lst xs)) {t : Addr} {vs : List V} (hk : ∀ b o, H b = some o → b ≠ rw → H' b = some o) (ht : H t = none) (ht' : H' t = some (.tup vs)) : Ext cs G0 H0 (upd G t (.tup vs)) H' := by
  have nt : ¬ Tab cs rw := x.wd.notTab_of h fun ps z => by cases z
  have gt : G t = none := x.wd.free ht
  have nT : ¬ Tab cs t := x.wd.notTab_none ht
  refine ⟨⟨fun b u e => ?_, fun b tb => ?_, fun b tb => ?_⟩, fun b u e tb => ?_, x.old.trans (Gle.upd gt), fun b e ne => ?_⟩
  · by_cases hb : b = t
    · subst hb; rw [upd_same] at e; rw [ht']; exact e
    · rw [upd_ne hb] at e
      have hr : b ≠ rw := fun z => by rw [z, g] at e; cases e
      exact hk _ _ (x.wd.sub _ _ e) hr
  · obtain ⟨ps, e2, q2⟩ := x.wd.tab b tb
    exact ⟨ps, hk _ _ e2 fun z => nt (z ▸ tb), q2⟩
  · have hb : b ≠ t := fun z => nT (z ▸ tb)
    rw [upd_ne hb]; exact x.wd.out b tb
  · exact hk _ _ (x.keep _ _ e tb) fun z => by rw [z, h0] at e; cases e
  · have hb : b ≠ t := fun z => by
      subst z
      obtain ⟨u, e1⟩ := Option.ne_none_iff_exists'.mp ne
      rw [x.keep _ _ e1 nT] at ht
      cases ht
    rw [upd_ne hb]; exact x.new b e ne
end
section
variable {P : Program} {w : World} {K : PySem.W.Frag} {mg : Str → Option Value} {base : Heap} {cs : Cs}
theorem rp_gs {G : Hp} {v : V} {xs : List PyData} (h : Rp G v (.list xs)) : ∃ b vs, v = .ref b ∧ G b = some (.lst vs) := let ⟨a, vs, h1, h2, _⟩ := h.list_inv; ⟨a, vs, h1, h2⟩
theorem env_none (H0 G H : Hp) (σ : L2.St) (k : Nat) (h : σ.length = k) : EnvR H0 G H σ (List.replicate k .no) := by
  refine ⟨by rw [List.length_replicate]; exact h, fun i t e => ?_, fun i j t u b _ e o => ?_⟩
  · rw [List.getElem?_replicate] at e
    by_cases z : i < k
    · rw [if_pos z] at e
      cases e
      trivial
    · rw [if_neg z] at e
      cases e
  · rw [List.getElem?_replicate] at e
    by_cases z : i < k
    · rw [if_pos z] at e
      cases e
      cases o
    · rw [if_neg z] at e
      cases e
theorem c_law (PL : Plain) {f : Addr} {fd : FuncData} (F : FunD K "law" "law" (defArgs s52) (defBody s52) (defScope s52) [] [] f fd) (C_law_taken : Cal P w K mg base "_law_taken" 1 (spTaken K)) (C_law_pick : Cal P w K mg base "_law_pick" 2 (spPick K cs)) (C_law_likings : Cal P w K mg base "_law_likings" 2 (spLik K)) (C_law_groupings : Cal P w K mg base "_law_groupings" 2 (spD cs m__law_groupings 1))
    (tail : ∀ (f : Addr) (cdv : Value) (A : Around) (outer : List PySem.Env) (s : Shared) (H : Hp), Room 7 (cxD P w K mg base N_law "law" s52 f cdv A outer s H).A → PSs (cxD P w K mg base N_law "law" s52 f cdv A outer s H) ((defBody s52).drop 4) (tDS cs b_law)) : FnOk P w K mg base CX0 8 f fd ["_law_script"] (spLaw K cs) := by
  obtain ⟨oc, od, dV, kV, doc, pm, an, cdv, ct, osl, efd, lk, hcd, _, _⟩ := id F.ex
  subst efd
  refine fn_of lk hcd sc_law (fun vs H Q E h => ?_) (fun A outer s H vs Q E hr h => ?_)
  · obtain ⟨_, _, rfl, _⟩ := h
    rfl
  obtain ⟨a, ns, rfl, hlen, hT, hS, q⟩ := h
  obtain ⟨f1, fd1, ps1, F1, hm1, hk1, hb1⟩ := C_law_taken
  obtain ⟨f2, fd2, ps2, F2, hm2, hk2, hb2⟩ := C_law_pick
  obtain ⟨f3, fd3, ps3, F3, hm3, hk3, hb3⟩ := C_law_likings
  obtain ⟨f4, fd4, ps4, F4, hm4, hk4, hb4⟩ := C_law_groupings
  have hr1 : Room 1 (cxD P w K mg base N_law "law" s52 f cdv A outer s H).A := hr.mono (by decide)
  have hr2 : Room 2 (cxD P w K mg base N_law "law" s52 f cdv A outer s H).A := hr.mono (by decide)
  have body : PSs (cxD P w K mg base N_law "law" s52 f cdv A outer s H) (defBody s52) _ := pss_cons (ps_set (i := 1) sc_law.nd rfl (Or.inl rfl) (pe_lst (pa_cons (pv 0) (pa_cons pe_int (pa_cons pe_int (pa_cons pe_int pa_nil))))))
    (pss_cons (ps_set (i := 2) sc_law.nd rfl (Or.inl rfl) (pe_op op_add pe_int (pe_call F1 hr1 rfl hm1 hk1 hb1 .nil pass0 (pa_cons (pv 1) (pa_cons pe_int pa_nil)))))
    (pss_cons (ps_asg (pe_tup (pa_cons (pe_call F3 hr2 rfl hm3 hk3 hb3 .nil pass0 (pa_cons (pv 1) (pa_cons (pv 2) pa_nil))) (pa_cons (pe_call F4 hr2 rfl hm4 hk4 hb4 .nil pass0 (pa_cons (pv 2) pa_nil)) pa_nil))) (pg_tup rfl (pgs_cons (pg_name (i := 7) sc_law.nd rfl (Or.inr rfl) (.inl rfl)) (pgs_cons (pg_name (i := 8) sc_law.nd rfl (Or.inr rfl) (.inl rfl)) pgs_nil))))
    (pss_cons (ps_asg (pe_tup (pa_cons (pe_call F2 hr2 rfl hm2 hk2 hb2 .nil pass0 (pa_cons (pv 1) (pa_cons (pv 8) pa_nil))) (pa_cons (pe_op op_add pe_int (pe_call F1 hr1 rfl hm1 hk1 hb1 .nil pass0 (pa_cons (pv 1) (pa_cons (pv 2) pa_nil)))) pa_nil))) (pg_tup rfl (pgs_cons (pg_name (i := 9) sc_law.nd rfl (Or.inl rfl) (.inr rfl)) (pgs_cons (pg_name (i := 10) sc_law.nd rfl (Or.inr rfl) (.inl rfl)) pgs_nil))))
      (tail f cdv A outer s H hr))))
  refine ⟨_, body.nox, ?_⟩
  -- the row
  refine ⟨.ref a, rfl, by show 4 ≤ sizeLine; decide, fun rw hrw => ?_⟩
  have wd0 : Wd cs (fun _ => none) H := ⟨fun b o e => (by cases e), fun b ⟨p, hp, e⟩ => ⟨#[], e ▸ hT p hp, by trivial⟩, fun _ _ => rfl⟩
  have x1 : Ext cs (fun _ => none) H (fun _ => none) (upd H rw (rowO a 0 13615 0)) := Ext.laidOwn wd0 hrw
  have hne : rw ≠ a ∨ ∀ H', SqL K H' a (ns.map V.int) := by
    rcases hS with h | h
    · refine .inl fun z => ?_
      rcases h with h | ⟨_, h⟩ <;> rw [← z, hrw] at h <;> cases h
    · exact .inr fun _ => .inr h
  have h01 : upd H rw (rowO a 0 13615 0) rw = some (rowO a 0 13615 0) := upd_same
  -- the size
  refine ⟨.ref rw, rfl, rw, a, ns, 4, rfl, ⟨0, 13615, 0, upd_same, by omega, by omega, by omega, by omega⟩, sqL_upd hS hne, hne, hlen, by omega, by omega, fun r k1 st1 rest1 hr0 hr4 hk1' hst1 hst1' hrest1 => ?_⟩
  have x2 : Ext cs (fun _ => none) H (fun _ => none) (upd (upd H rw (rowO a 0 13615 0)) rw (rowO a k1 st1 rest1)) := ext_row x1 hrw rfl h01 _
  have er2 : EnvR H (fun _ => none) (upd (upd H rw (rowO a 0 13615 0)) rw (rowO a k1 st1 rest1)) (((L2.start N_law [V.ref a]).set 1 (some (.ref rw))).set 2 (some (.int (1 + r)))) (((List.replicate 21 Slot.no).set 1 .no).set 2 (.dat (.int (1 + r)))) := by
    have e1 : EnvR H (fun _ => none) (upd (upd H rw (rowO a 0 13615 0)) rw (rowO a k1 st1 rest1)) (L2.start N_law [V.ref a]) (List.replicate 21 .no) := env_none _ _ _ _ _ rfl
    exact (e1.set (i := 1) (s := .no) rfl trivial).setD 2 (.int _)
  rw [upd_upd] at x2 er2
  refine ⟨1, r, rfl, rfl, ?_⟩
  show tSeq _ _ _ (((L2.start N_law [V.ref a]).set 1 (some (.ref rw))).set 2 (some (.int (1 + r)))) (upd (upd H rw (rowO a 0 13615 0)) rw (rowO a k1 st1 rest1))
  rw [upd_upd]
  generalize hH2 : upd H rw (rowO a k1 st1 rest1) = H2 at x2 er2
  have hrow2 : H2 rw = some (rowO a k1 st1 rest1) := by rw [← hH2]; exact upd_same
  have hS2 : SqL K H2 a (ns.map V.int) := by rw [← hH2]; exact sqL_upd hS hne
  have hn1 : 1 ≤ 1 + r := by omega
  have hn4 : 1 + r ≤ 4 := by omega
  generalize 1 + r = n at hn1 hn4 er2
  -- likings and groupings
  refine ⟨.ref rw, rfl, .int n, rfl, rw, a, ns, n, rfl, ⟨k1, st1, rest1, hrow2, hk1', hst1, hst1', hrest1⟩, hS2, hne, hlen, hn1, hn4, fun zs H3 t hzl hzb hrow3 hkeep ht2 ht3 => ?_⟩
  obtain ⟨GS, hGS, hpos, hsmall, hlaw⟩ := PL n zs hn1 hn4 hzl hzb
  have x3 : Ext cs (fun _ => none) H (upd (fun _ => none) t (.tup (zs.map V.int))) H3 := ext_lik x2 hrw rfl hrow2 hkeep ht2 ht3
  have rlik : Rp (upd (fun _ => none) t (.tup (zs.map V.int))) (.ref t) (.tuple (zs.map .int)) := .tup upd_same (RpAll.ints _)
  have ntr : rw ≠ t := fun z => by rw [← z, hrow2] at ht2; cases ht2
  have g3 : (upd (fun _ => none) t (.tup (zs.map V.int)) : Hp) rw = none := by rw [upd_ne ntr]
  refine ⟨.int n, rfl, rfl, (upd (fun _ => none) t (.tup (zs.map V.int)) : Hp), [.int n], .list GS, x3.wd, .cons (.int n) .nil, hGS, fun G4 H4 vGS x4 rGS => ?_⟩
  have x34 := x3.trans x4
  obtain ⟨k3, st3, rest3, hrw3, hk3', hst3, hst3', hrest3⟩ := hrow3
  have ntab3 : ¬ Tab cs rw := x3.wd.notTab_of hrw3 fun ps z => by cases z
  have hrw4 : H4 rw = some (.lst [.ref a, .int k3, .int st3, .int rest3]) := x4.keep _ _ hrw3 ntab3
  have g4 : G4 rw = none := x4.new rw g3 (by rw [hrw3]; exact Option.some_ne_none _)
  have hS4 : SqL K H4 a (ns.map V.int) := by
    rcases hne with hne | all
    · rcases hS2 with h | h
      · rcases h with h | ⟨ob, h⟩
        · exact .inl (.inl (x4.keep _ _ (hkeep _ _ h (Ne.symm hne)) (x3.wd.notTab_of (hkeep _ _ h (Ne.symm hne)) fun ps z => by cases z)))
        · exact .inl (.inr ⟨ob, x4.keep _ _ (hkeep _ _ h (Ne.symm hne)) (x3.wd.notTab_of (hkeep _ _ h (Ne.symm hne)) fun ps z => by cases z)⟩)
      · exact .inr h
    · exact all _
  refine ⟨by show 2 ≤ sizeLine; decide, fun T hT4 => ?_⟩
  have x5 := Ext.laidOwn (o := .tup [.ref t, vGS]) x4.wd hT4
  have x345 := x34.trans x5
  refine ⟨T, [.ref t, vGS], rfl, SqT.of upd_same, rfl, .ref t, [vGS], rfl, vGS, [], rfl, rfl, ?_⟩
  have er5 : EnvR H G4 (upd H4 T (.tup [.ref t, vGS])) (((((L2.start N_law [V.ref a]).set 1 (some (.ref rw))).set 2 (some (.int n))).set 7 (some (.ref t))).set 8 (some vGS)) (((((List.replicate 21 Slot.no).set 1 .no).set 2 (.dat (.int n))).set 7 (.dat (.tuple (zs.map .int)))).set 8 (.dat (.list GS))) := by
    have e1 : EnvR H G4 (upd H4 T (.tup [.ref t, vGS])) (((L2.start N_law [V.ref a]).set 1 (some (.ref rw))).set 2 (some (.int n))) (((List.replicate 21 Slot.no).set 1 .no).set 2 (.dat (.int n))) := by
      have e0 : EnvR H G4 (upd H4 T (.tup [.ref t, vGS])) (L2.start N_law [V.ref a]) (List.replicate 21 .no) := env_none _ _ _ _ _ rfl
      exact (e0.set (i := 1) (s := .no) rfl trivial).setD 2 (.int _)
    exact (e1.setD 7 (rlik.mono x4.old)).setD 8 rGS
  have nTr : rw ≠ T := fun z => by rw [← z, hrw4] at hT4; cases hT4
  have hrw5 : upd H4 T (.tup [.ref t, vGS]) rw = some (.lst [.ref a, .int k3, .int st3, .int rest3]) := by rw [upd_ne nTr]; exact hrw4
  have hS5 : SqL K (upd H4 T (.tup [.ref t, vGS])) a (ns.map V.int) := by
    rcases hS4 with h | h
    · rcases h with h | ⟨ob, h⟩
      · exact .inl (.inl (by rw [upd_ne (ne_of_none h hT4)]; exact h))
      · exact .inl (.inr ⟨ob, by rw [upd_ne (ne_of_none h hT4)]; exact h⟩)
    · exact .inr h
  generalize hH5 : upd H4 T (.tup [.ref t, vGS]) = H5 at x5 x345 er5 hrw5 hS5
  -- the start and the number
  refine ⟨.ref rw, rfl, vGS, rfl, G4, rw, a, ns, vGS, GS, rfl, ⟨k3, st3, rest3, hrw5, hk3', hst3, hst3', hrest3⟩, hS5, hne, hlen, x5.wd, g4, rGS, hpos, hsmall, fun k6 st6 rest6 g vg hok6 hg rg => ?_⟩
  have x6 : Ext cs (fun _ => none) H G4 (upd H5 rw (rowO a k6 st6 rest6)) := ext_row x345 hrw g4 hrw5 _
  refine ⟨.ref rw, rfl, .int n, rfl, rw, a, ns, n, rfl, ⟨k6, st6, rest6, upd_same, hok6.1, hok6.2.1, hok6.2.2.1, hok6.2.2.2⟩, sqL_upd hS5 hne, hne, hlen, by omega, by omega, fun r7 k7 st7 rest7 hr70 hr71 hk7 hst7 hst7' hrest7 => ?_⟩
  have x7 : Ext cs (fun _ => none) H G4 (upd (upd H5 rw (rowO a k6 st6 rest6)) rw (rowO a k7 st7 rest7)) := ext_row x6 hrw g4 upd_same _
  refine ⟨1, r7, rfl, rfl, ?_⟩
  refine ⟨by show 2 ≤ sizeLine; decide, fun T8 hT8 => ?_⟩
  have x8 := Ext.laidOwn (o := .tup [vg, .int (1 + r7)]) x7.wd hT8
  have x78 := x7.trans x8
  refine ⟨T8, [vg, .int (1 + r7)], rfl, SqT.of upd_same, rfl, vg, [.int (1 + r7)], rfl, .int (1 + r7), [], rfl, rfl, ?_⟩
  refine ⟨(fun _ => none), H, G4, envL n zs GS g (1 + r7), .rt (.dat (.bool true)), x78, ?_, hlaw g hg (1 + r7) (by omega) (by omega), fun G' H' v x' hv => ?_⟩
  · have e1 : EnvR H G4 (upd (upd (upd H5 rw (rowO a k6 st6 rest6)) rw (rowO a k7 st7 rest7)) T8 (.tup [vg, .int (1 + r7)])) (((((L2.start N_law [V.ref a]).set 1 (some (.ref rw))).set 2 (some (.int n))).set 7 (some (.ref t))).set 8 (some vGS)) (((((List.replicate 21 Slot.no).set 1 .no).set 2 (.dat (.int n))).set 7 (.dat (.tuple (zs.map .int)))).set 8 (.dat (.list GS))) := by
      have e0 : EnvR H G4 (upd (upd (upd H5 rw (rowO a k6 st6 rest6)) rw (rowO a k7 st7 rest7)) T8 (.tup [vg, .int (1 + r7)])) (L2.start N_law [V.ref a]) (List.replicate 21 .no) := env_none _ _ _ _ _ rfl
      exact (((e0.set (i := 1) (s := .no) rfl trivial).setD 2 (.int _)).setD 7 (rlik.mono x4.old)).setD 8 rGS
    exact (e1.setD 9 rg).setD 10 (.int _)
  · obtain ⟨v', ev, rv⟩ := hv
    cases ev
    have := rv.bl_inv
    subst this
    exact q H'
end
end DL

/-! Dh: the head's run. -/
namespace DL
open PySem PySem.Spec PyProof.Rows L2
abbrev topH (i : Nat) : Stmt := PySem.Challenge.pw_groupdeeds_k15_whole_likings.main.body.getD i (.Pass ⟨0, 0, 0, 0⟩)
def dd (x : Str) (i : Nat) : He.DefD := ⟨(x, none), x, x, defArgs (topH i), defBody (topH i), defScope (topH i), [], []⟩
def hfn : List He.DefD := [dd "is_in" 8, dd "need_size" 9, dd "is_lot" 10, dd "is_grouping" 11, dd "size_of" 12, dd "need_grouping" 13, dd "all_groupings" 14, dd "lot_with" 15, dd "joined" 16, dd "left" 17, dd "stepped" 18, dd "all_steps" 19, dd "pairs_of" 22, dd "are_likings" 23, dd "need_likings" 24, dd "worth_of" 25, dd "worth" 26, dd "need_liked" 27, dd "best_of" 28, dd "best_grouping" 29, dd "shows_best_grouping" 30, dd "best_of_lots" 31, dd "sum_between" 32, dd "calm" 33, dd "is_calm" 34, dd "calm_ones" 35, dd "climb" 36, dd "_law_taken" 38, dd "_law_pick" 39, dd "_law_alike" 40, dd "_law_lots" 41, dd "_law_labels" 42, dd "_law_step" 44, dd "_law_steps" 46, dd "_law_groupings" 48, dd "_law_likings" 49, dd "_law_worth" 50, dd "_law_calm" 51, dd "law" 52]
def hfa1 : List He.Fa := [.glo "is_in", .glo "need_size", .glo "is_lot", .glo "is_grouping", .glo "size_of", .glo "need_grouping", .glo "all_groupings", .glo "lot_with", .glo "joined", .glo "left", .glo "stepped", .glo "all_steps", .glo "pairs_of", .glo "are_likings", .glo "need_likings", .glo "worth_of", .glo "worth", .glo "need_liked", .glo "best_of", .glo "best_grouping", .glo "shows_best_grouping", .glo "best_of_lots", .glo "sum_between", .glo "calm", .glo "is_calm", .glo "calm_ones", .glo "climb", .glo "_law_taken", .glo "_law_pick", .glo "_law_alike", .glo "_law_lots", .glo "_law_labels", .glo "_law_step", .glo "_law_steps", .glo "_law_groupings", .glo "_law_likings", .glo "_law_worth", .glo "_law_calm", .glo "law"]
def hfa2 : List He.Fa := [.free "len", .free "isinstance", .free "tuple", .free "list", .free "int", .free "bool", .free "str", .free "range", .free "sorted", .free "sum", .free "all", .free "any", .free "max", .free "enumerate", .free "zip", .free "set", .int "MOST_PEOPLE" 6, .int "MOST_LIKING" 100]
def hfa : List He.Fa := hfa1 ++ hfa2
def htf : List He.Defn := [("is_lot", none), ("is_grouping", none), ("size_of", none), ("are_likings", none), ("worth_of", none), ("calm", none)]
abbrev RR : PySem.W.OpenRow := PySem.W.OpenLaw.row PySem.Challenge.rw_groupdeeds_k15_whole_likings
def hex : PySem.W.Frag → Bool := fun _ => true
abbrev hk : PySem.W.Hook := He.hookX 4 hfa hfn [] htf hex
def hob (s : PySem.W.SharedT) : He.AlX := He.obsX 4 hfa hfn [] htf hex (HandSHeadRun.getT s)
theorem hob_eq (s : PySem.W.SharedT) : hob s = hk.obs s.abs := He.obsX_eq (HandSHeadRun.getT_eq s)
def hl1 : List Str := ["GroupError", "BadSize", "BadGrouping", "BadCount", "BadLikings", "MOST_PEOPLE", "is_in", "need_size", "is_lot", "is_grouping", "size_of", "need_grouping", "all_groupings", "lot_with", "joined", "left", "stepped", "all_steps", "MOST_LIKING", "pairs_of", "are_likings", "need_likings", "worth_of", "worth", "need_liked", "best_of", "best_grouping", "shows_best_grouping", "best_of_lots", "sum_between"]
def hl2 : List Str := ["calm", "is_calm", "calm_ones", "climb", "_law_taken", "_law_pick", "_law_alike", "_law_lots", "_law_labels", "_law_grouping", "_law_step", "_law_done", "_law_steps", "_law_row", "_law_groupings", "_law_likings", "_law_worth", "_law_calm"]
def hloose : List Str := hl1 ++ hl2
theorem hrun (w : World) : HandSHeadRun.RunEq RR (PySem.W.view RR.prog [52]) hk hob 6000 hloose w := by
  intro os
  kernel_rfl
end DL

/-! Dz: all calls from the head's facts. -/
namespace DL
open PySem PySem.Spec PyProof.Rows L2
section
variable {P : Program} {w : World} {K : PySem.W.Frag} {mg : Str → Option Value} {base h : Heap}
theorem dn_of {x : Str} {i j : Nat} {s : Stmt} (X : K.In h) (G : h.Ns mainGlobals mg) (c : He.SaysD hfa hfn K) (e : s = topS i) (h1 : hfn[j]? = some (dd x i)) (h2 : hfa[j]? = some (.glo x)) : Dn K mg x s := by
  obtain ⟨fd, F⟩ := c.def_ j h1
  subst e
  exact ⟨_, fd, F, He.glo_ok X G (c.fact j h2)⟩
theorem dnt_of {x : Str} {i j : Nat} {s : Stmt} {cs : Cs} (X : K.In h) (G : h.Ns mainGlobals mg) (c : He.SaysD hfa hfn K) (hcs : cs = htf.map (He.cT K)) (hB : ∀ p ∈ cs, GxR.TabB base mg p.1 p.2) (hp : ((x, none) : Str × Option Str) ∈ htf) (e : s = topS i) (h1 : hfn[j]? = some (dd x i)) (h2 : hfa[j]? = some (.glo x)) : DnT K mg base cs x s := by
  obtain ⟨fd, F⟩ := c.def_ j h1
  subst e
  have hm : He.cT K (x, none) ∈ cs := by rw [hcs]; exact List.mem_map_of_mem hp
  obtain ⟨oc, od, dV, kV, doc, pm, an, cdv, ct, osl, efd, lk, hcd, _, _⟩ := F.ex
  obtain ⟨c0, hc0⟩ := He.codeIn_ref hcd
  have e0 : fd.code = .ref c0 := by rw [efd]; exact hc0
  have lk2 : K.lookup (He.fAd K (x, none)) = some ⟨oc, od, .func fd, osl⟩ := lk
  have e1 : He.codeOf K (x, none) = c0 := He.codeOf_eq lk2 e0
  refine ⟨_, fd, F, He.glo_ok X G (c.fact j h2), c0, (He.cT K (x, none)).2, e0, ⟨_, hm, rfl⟩, ?_⟩
  have := hB _ hm
  have e2 : (He.cT K (x, none)).1 = c0 := e1
  rw [e2] at this
  exact this
theorem blt_of (X : K.In h) (G : h.Ns mainGlobals mg) (c : He.SaysD hfa hfn K) : Blt mg :=
  ⟨He.free_ok X G (c.fact 39 (f := .free "len") rfl), He.free_ok X G (c.fact 40 (f := .free "isinstance") rfl), He.free_ok X G (c.fact 41 (f := .free "tuple") rfl), He.free_ok X G (c.fact 42 (f := .free "list") rfl), He.free_ok X G (c.fact 43 (f := .free "int") rfl), He.free_ok X G (c.fact 44 (f := .free "bool") rfl), He.free_ok X G (c.fact 45 (f := .free "str") rfl), He.free_ok X G (c.fact 46 (f := .free "range") rfl), He.free_ok X G (c.fact 47 (f := .free "sorted") rfl), He.free_ok X G (c.fact 48 (f := .free "sum") rfl), He.free_ok X G (c.fact 49 (f := .free "all") rfl), He.free_ok X G (c.fact 50 (f := .free "any") rfl), He.free_ok X G (c.fact 51 (f := .free "max") rfl), He.free_ok X G (c.fact 52 (f := .free "enumerate") rfl), He.free_ok X G (c.fact 53 (f := .free "zip") rfl), He.free_ok X G (c.fact 54 (f := .free "set") rfl)⟩
theorem calls_of (PL : Plain) {cs : Cs} {f : Addr} {fd : FuncData} (X : K.In h) (G : h.Ns mainGlobals mg) (c : He.SaysD hfa hfn K) (hcs : cs = htf.map (He.cT K)) (hB : ∀ p ∈ cs, GxR.TabB base mg p.1 p.2) (F : FunD K "law" "law" (defArgs s52) (defBody s52) (defScope s52) [] [] f fd) : FnOk P w K mg base CX0 8 f fd ["_law_script"] (spLaw K cs) := by
  have B := blt_of X G c
  have G_MOST_PEOPLE := He.int_ok X G (c.fact 55 (f := .int "MOST_PEOPLE" 6) rfl)
  have G_MOST_LIKING := He.int_ok X G (c.fact 56 (f := .int "MOST_LIKING" 100) rfl)
  have C_is_in : Cal P w K mg base "is_in" 1 (spD cs m_is_in 3) := c_is_in B (dn_of (j := 0) X G c e8 rfl rfl)
  have C_need_size : Cal P w K mg base "need_size" 2 (spD cs m_need_size 1) := c_need_size B G_MOST_PEOPLE C_is_in (dn_of (j := 1) X G c e9 rfl rfl)
  have C_is_lot : Cal P w K mg base "is_lot" 3 (spD cs m_is_lot 2) := c_is_lot B C_is_in (dnt_of (j := 2) X G c hcs hB (by decide) e10 rfl rfl)
  have C_is_grouping : Cal P w K mg base "is_grouping" 5 (spD cs m_is_grouping 1) := c_is_grouping B G_MOST_PEOPLE C_is_lot (dnt_of (j := 3) X G c hcs hB (by decide) e11 rfl rfl)
  have C_size_of : Cal P w K mg base "size_of" 2 (spD cs m_size_of 1) := c_size_of B (dnt_of (j := 4) X G c hcs hB (by decide) e12 rfl rfl)
  have C_need_grouping : Cal P w K mg base "need_grouping" 6 (spD cs m_need_grouping 1) := c_need_grouping B C_is_grouping (dn_of (j := 5) X G c e13 rfl rfl)
  have C_all_groupings : Cal P w K mg base "all_groupings" 1 (spD cs m_all_groupings 1) := c_all_groupings B (dn_of (j := 6) X G c e14 rfl rfl)
  have C_lot_with : Cal P w K mg base "lot_with" 1 (spD cs m_lot_with 2) := c_lot_with B (dn_of (j := 7) X G c e15 rfl rfl)
  have C_joined : Cal P w K mg base "joined" 2 (spD cs m_joined 3) := c_joined B C_lot_with (dn_of (j := 8) X G c e16 rfl rfl)
  have C_left : Cal P w K mg base "left" 2 (spD cs m_left 2) := c_left B C_lot_with (dn_of (j := 9) X G c e17 rfl rfl)
  have C_stepped : Cal P w K mg base "stepped" 3 (spD cs m_stepped 2) := c_stepped B C_left C_joined (dn_of (j := 10) X G c e18 rfl rfl)
  have C_all_steps : Cal P w K mg base "all_steps" 1 (spD cs m_all_steps 1) := c_all_steps B (dn_of (j := 11) X G c e19 rfl rfl)
  have C_pairs_of : Cal P w K mg base "pairs_of" 1 (spD cs m_pairs_of 1) := c_pairs_of B (dn_of (j := 12) X G c e22 rfl rfl)
  have C_are_likings : Cal P w K mg base "are_likings" 3 (spD cs m_are_likings 2) := c_are_likings B G_MOST_LIKING C_is_in (dnt_of (j := 13) X G c hcs hB (by decide) e23 rfl rfl)
  have C_need_likings : Cal P w K mg base "need_likings" 4 (spD cs m_need_likings 2) := c_need_likings B C_are_likings (dn_of (j := 14) X G c e24 rfl rfl)
  have C_worth_of : Cal P w K mg base "worth_of" 3 (spD cs m_worth_of 2) := c_worth_of B C_size_of C_pairs_of (dnt_of (j := 15) X G c hcs hB (by decide) e25 rfl rfl)
  have C_worth : Cal P w K mg base "worth" 7 (spD cs m_worth 2) := c_worth B C_need_grouping C_size_of C_need_likings C_worth_of (dn_of (j := 16) X G c e26 rfl rfl)
  have C_need_liked : Cal P w K mg base "need_liked" 5 (spD cs m_need_liked 2) := c_need_liked B C_need_size C_need_likings (dn_of (j := 17) X G c e27 rfl rfl)
  have C_best_of : Cal P w K mg base "best_of" 4 (spD cs m_best_of 2) := c_best_of B C_all_groupings C_worth_of (dn_of (j := 18) X G c e28 rfl rfl)
  have C_best_grouping : Cal P w K mg base "best_grouping" 6 (spD cs m_best_grouping 2) := c_best_grouping B C_need_liked C_best_of (dn_of (j := 19) X G c e29 rfl rfl)
  have C_shows_best_grouping : Cal P w K mg base "shows_best_grouping" 6 (spD cs m_shows_best_grouping 3) := c_shows_best_grouping B C_need_liked C_best_of C_is_in C_is_grouping C_size_of C_worth_of (dn_of (j := 20) X G c e30 rfl rfl)
  have C_best_of_lots : Cal P w K mg base "best_of_lots" 6 (spD cs m_best_of_lots 3) := c_best_of_lots B C_need_liked C_is_in C_all_groupings C_worth_of (dn_of (j := 21) X G c e31 rfl rfl)
  have C_sum_between : Cal P w K mg base "sum_between" 2 (spD cs m_sum_between 4) := c_sum_between B C_pairs_of (dn_of (j := 22) X G c e32 rfl rfl)
  have C_calm : Cal P w K mg base "calm" 4 (spD cs m_calm 2) := c_calm B C_size_of C_sum_between (dnt_of (j := 23) X G c hcs hB (by decide) e33 rfl rfl)
  have C_is_calm : Cal P w K mg base "is_calm" 7 (spD cs m_is_calm 2) := c_is_calm B C_need_grouping C_size_of C_need_likings C_calm (dn_of (j := 24) X G c e34 rfl rfl)
  have C_calm_ones : Cal P w K mg base "calm_ones" 6 (spD cs m_calm_ones 2) := c_calm_ones B C_need_liked C_all_groupings C_calm (dn_of (j := 25) X G c e35 rfl rfl)
  have C_climb : Cal P w K mg base "climb" 7 (spD cs m_climb 2) := c_climb B C_need_grouping C_size_of C_need_likings C_all_steps C_stepped C_worth_of (dn_of (j := 26) X G c e36 rfl rfl)
  have C__law_alike : Cal P w K mg base "_law_alike" 6 (spD cs (m__law_alike 6) 2) := c__law_alike B (dn_of (j := 29) X G c e40 rfl rfl) 6
  have C__law_lots : Cal P w K mg base "_law_lots" 1 (spD cs m__law_lots 1) := c__law_lots B (dn_of (j := 30) X G c e41 rfl rfl)
  have O__law_labels : Cal P w K mg base "_law_labels" 1 (spO cs m__law_labels 1) := o__law_labels B (dn_of (j := 31) X G c e42 rfl rfl)
  have C__law_labels : Cal P w K mg base "_law_labels" 1 (spD cs (frzM m__law_labels) 1) := c__law_labels B (dn_of (j := 31) X G c e42 rfl rfl)
  have C__law_step : Cal P w K mg base "_law_step" 2 (spD cs m__law_step 2) := c__law_step B O__law_labels C__law_labels C__law_lots (dn_of (j := 32) X G c e44 rfl rfl)
  have C__law_steps : Cal P w K mg base "_law_steps" 1 (spD cs m__law_steps 1) := c__law_steps B (dn_of (j := 33) X G c e46 rfl rfl)
  have C__law_groupings : Cal P w K mg base "_law_groupings" 2 (spD cs m__law_groupings 1) := c__law_groupings B C__law_lots (dn_of (j := 34) X G c e48 rfl rfl)
  have C__law_worth : Cal P w K mg base "_law_worth" 2 (spD cs m__law_worth 2) := c__law_worth B O__law_labels C__law_labels (dn_of (j := 36) X G c e50 rfl rfl)
  have C__law_calm : Cal P w K mg base "_law_calm" 3 (spD cs m__law_calm 2) := c__law_calm B O__law_labels C__law_labels C__law_worth C__law_step (dn_of (j := 37) X G c e51 rfl rfl)
  have T1 : Cal P w K mg base "_law_taken" 1 (spTaken K) := c__law_taken B (dn_of (j := 27) X G c e38 rfl rfl)
  have T2 : Cal P w K mg base "_law_pick" 2 (spPick K cs) := c__law_pick B (dn_of (j := 28) X G c e39 rfl rfl) T1
  have T3 : Cal P w K mg base "_law_likings" 2 (spLik K) := c__law_likings B (dn_of (j := 35) X G c e49 rfl rfl) T1
  exact c_law PL F T1 T2 T3 C__law_groupings fun f cdv A outer s H hr => p_law B C__law_worth C_worth C__law_alike C_best_grouping C_best_of_lots C_shows_best_grouping C__law_calm C_is_calm C_calm_ones C__law_steps C__law_step C_climb f cdv A outer s H hr
theorem law_at (PL : Plain) {w : World} {fa : Addr} (X : K.In h) (G : h.Ns mainGlobals mg) (c : He.SaysX hfa hfn [] htf hex w h K) (hm : mg "law" = some (.ref fa)) :
    LamX.LawAtS PySem.Challenge.rw_groupdeeds_k15_whole_likings w K CX0 8 63 "_law_script" mg fa h := by
  obtain ⟨fd, F⟩ := c.t.d.def_ 38 (d := dd "law" 52) rfl
  have e := hm.symm.trans (He.glo_ok X G (c.t.d.fact 38 (f := .glo "law") rfl))
  cases e
  have e52' : s52 = topH 52 := e52
  have F2 : FunD K "law" "law" (defArgs s52) (defBody s52) (defScope s52) [] [] (He.fAd K ("law", none)) fd := by rw [e52']; exact F
  have b := FunD.bindsA (ps := ["_law_script"]) F2 fun _ _ _ _ _ _ us hl => match us, hl with | [_], _ => rfl
  refine ⟨fd, htf.map (He.cT K), spLaw K (htf.map (He.cT K)), fun p hp => ?_, fun p hp => ?_, fun p hp => ?_, fun s v => b s [v] rfl, fun H a ns hl _ hT hS => ⟨a, ns, rfl, hl, hT, hS, fun _ => rfl⟩, fun base hK hG hB => ?_⟩
  · obtain ⟨d, hd, e⟩ := List.mem_map.mp hp
    rw [← e]; exact c.empty d hd
  · obtain ⟨d, hd, e⟩ := List.mem_map.mp hp
    rw [← e]; exact c.out d hd
  · obtain ⟨d, hd, e⟩ := List.mem_map.mp hp
    rw [← e]; exact PySem.W.codeHd_of_K X (c.hd d hd)
  · exact calls_of PL X G c.t.d rfl (fun p hp => let z := hB p hp; ⟨z.code, z.bm, z.gP⟩) F2
end
end DL

/-! Pl1: plain rules of the mirrors' combinators. -/
namespace DL
open PySem PySem.Spec PyProof.Rows L2
section
variable {env env' : SE} {fe fa fb fc : Fe} {d a b c : PyData} {i j : Nat}
theorem var_at (h : env[i]? = some (.dat d)) : fVar i env = some d := by unfold fVar; rw [h]
theorem b2_of {g : PyData → PyData → Option PyData} (ha : fa env = some a) (hb : fb env = some b) : b2 g fa fb env = g a b := by unfold b2; rw [ha]; show ((fb env).bind fun e => g a e) = _; rw [hb]; rfl
theorem f1_of {g : PyData → Option PyData} (ha : fa env = some a) : f1 g fa env = g a := by unfold f1; rw [ha]; rfl
theorem s1_of {g : List PyData → Option PyData} (ha : fa env = some a) : fS g (sCons fa sNil) env = g [a] := by
  unfold fS sCons; rw [ha]; rfl
theorem s2_of {g : List PyData → Option PyData} (ha : fa env = some a) (hb : fb env = some b) : fS g (sCons fa (sCons fb sNil)) env = g [a, b] := by
  unfold fS sCons; rw [ha, hb]; rfl
theorem s3_of {g : List PyData → Option PyData} (ha : fa env = some a) (hb : fb env = some b) (hc : fc env = some c) : fS g (sCons fa (sCons fb (sCons fc sNil))) env = g [a, b, c] := by
  unfold fS sCons; rw [ha, hb, hc]; rfl
theorem c1_of {m : List PyData → Option PyData} (ha : fa env = some a) : fS (gN 1 m) (sCons fa sNil) env = m [a] := (s1_of ha).trans rfl
theorem c2_of {m : List PyData → Option PyData} (ha : fa env = some a) (hb : fb env = some b) : fS (gN 2 m) (sCons fa (sCons fb sNil)) env = m [a, b] := (s2_of ha hb).trans rfl
theorem c3_of {m : List PyData → Option PyData} (ha : fa env = some a) (hb : fb env = some b) (hc : fc env = some c) : fS (gN 3 m) (sCons fa (sCons fb (sCons fc sNil))) env = m [a, b, c] := (s3_of ha hb hc).trans rfl
/-! tests -/
variable {t ta tb : Ft} {x y : Bool}
theorem tru_of' (h : fe env = some d) (hd : truD d = some x) : fTru fe env = some x := by unfold fTru; rw [h]; exact hd
theorem bt_of (h : fe env = some (.bool x)) : fBt fe env = some x := by unfold fBt; rw [h]; rfl
theorem not_of (h : t env = some x) : fNotT t env = some (!x) := by unfold fNotT; rw [h]; rfl
theorem or_t (h : ta env = some true) : fOrT ta tb env = some true := by unfold fOrT; rw [h]; rfl
theorem or_f (h : ta env = some false) : fOrT ta tb env = tb env := by unfold fOrT; rw [h]; rfl
theorem and_t (h : ta env = some true) : fAndT ta tb env = tb env := by unfold fAndT; rw [h]; rfl
theorem and_f (h : ta env = some false) : fAndT ta tb env = some false := by unfold fAndT; rw [h]; rfl
theorem va_t (h : fa env = some (.bool true)) : fAnd fa fb env = fb env := by unfold fAnd; rw [h]; rfl
theorem va_f (h : fa env = some (.bool false)) : fAnd fa fb env = some (.bool false) := by unfold fAnd; rw [h]; rfl
/-! statements -/
variable {f g : Fb} {r : Fl}
theorem seq_nx (h : f env = some (.nx env')) : bSeq f g env = g env' := by unfold bSeq; rw [h]; rfl
theorem seq_rt {s : Slot} (h : f env = some (.rt s)) : bSeq f g env = some (.rt s) := by unfold bSeq; rw [h]; rfl
theorem if_t (h : t env = some true) : bIf t f g env = f env := by unfold bIf; rw [h]; rfl
theorem if_f (h : t env = some false) : bIf t f g env = g env := by unfold bIf; rw [h]; rfl
theorem set_of (h : fe env = some d) : bSet i fe env = some (.nx (env.set i (.dat d))) := by unfold bSet; rw [h]; rfl
theorem ret_of (h : fe env = some d) : bRet fe env = some (.rt (.dat d)) := by unfold bRet; rw [h]; rfl
theorem do_of (h : fe env = some d) : bDo fe env = some (.nx env) := by unfold bDo; rw [h]; rfl
/-- an if that is not entered -/
theorem skip_of (h : t env = some false) : bIf t f bNx env = some (.nx env) := (if_f h).trans rfl
/-! comprehensions -/
theorem lcD_filter {ft : Ft} {items : List PyData} {p : PyData → Bool} {h : PyData → PyData} (H : ∀ d ∈ items, ft (env.set i (.dat d)) = some (p d) ∧ (p d = true → fe (env.set i (.dat d)) = some (h d))) :
    lcD i ft fe env items = some ((items.filter p).map h) := by
  induction items with
  | nil => rfl
  | cons z zs ih =>
    obtain ⟨h1, h2⟩ := H z List.mem_cons_self
    have q := ih fun d hd => H d (List.mem_cons_of_mem _ hd)
    unfold lcD lcOne
    rw [h1, q]
    cases hp : p z with
    | true =>
      rw [List.filter_cons, if_pos hp, List.map_cons]
      show (((fe (env.set i (.dat z))).bind fun y => some [y]).bind fun y => some (y ++ (zs.filter p).map h)) = _
      rw [h2 hp]
      rfl
    | false =>
      rw [List.filter_cons, if_neg (by rw [hp]; exact Bool.false_ne_true)]
      rfl
theorem lcD_map {items : List PyData} {h : PyData → PyData} (H : ∀ d ∈ items, fe (env.set i (.dat d)) = some (h d)) : lcD i tYesD fe env items = some (items.map h) := by
  rw [lcD_filter (p := fun _ => true) (h := h) fun d hd => ⟨rfl, fun _ => H d hd⟩]
  rw [List.filter_eq_self.mpr fun _ _ => rfl]
theorem lc_of {fi : Fs} {ft : Ft} {items out : List PyData} (hi : fi env = some items) (hl : lcD i ft fe (env.set i .no) items = some out) (hs : out.length ≤ 5000) : fLc i fi ft fe env = some (.list out) := by
  unfold fLc fO fLcL
  rw [hi]
  show ((((lcD i ft fe (env.set i .no) items).bind fun out => if out.length ≤ 5000 then some out else none)).bind fun xs => some (PyData.list xs)) = _
  rw [hl]
  show ((if out.length ≤ 5000 then some out else none).bind fun xs => some (PyData.list xs)) = _
  rw [if_pos hs]
  rfl
theorem il_of {xs : List PyData} (h : fe env = some (.list xs)) : iSeq asList fe env = some xs := by unfold iSeq; rw [h]; rfl
theorem it_of {xs : List PyData} (h : fe env = some (.tuple xs)) : iSeq asTup fe env = some xs := by unfold iSeq; rw [h]; rfl
/-! for, by an invariant -/
theorem forD_inv {gt : PyData → SE → Option SE} {bb : Fb} {items : List PyData} (I : Nat → SE → Prop) (h0 : I 0 env)
    (hs : ∀ (n : Nat) (z : PyData) (e : SE), items[n]? = some z → I n e → ∃ e1 e2, gt z e = some e1 ∧ bb e1 = some (.nx e2) ∧ I (n + 1) e2) : ∃ e, forD gt bb items env = some (.nx e) ∧ I items.length e := by
  have key : ∀ (l : List PyData) (k : Nat) (e : SE), items.drop k = l → I k e → k + l.length = items.length → ∃ e', forD gt bb l e = some (.nx e') ∧ I items.length e' := by
    intro l
    induction l with
    | nil =>
      intro k e hd hI hl
      refine ⟨e, rfl, ?_⟩
      have : k = items.length := by simpa using hl
      rw [← this]; exact hI
    | cons z zs ih =>
      intro k e hd hI hl
      have hk : items[k]? = some z := by
        have h9 : (items.drop k)[0]? = some z := by rw [hd]; rfl
        rw [List.getElem?_drop] at h9
        simpa using h9
      obtain ⟨e1, e2, q1, q2, q3⟩ := hs k z e hk hI
      have hd2 : items.drop (k + 1) = zs := by
        have : items.drop (k + 1) = (items.drop k).drop 1 := by rw [List.drop_drop]
        rw [this, hd]; rfl
      obtain ⟨e', r1, r2⟩ := ih (k + 1) e2 hd2 q3 (by rw [List.length_cons] at hl; omega)
      refine ⟨e', ?_, r2⟩
      unfold forD
      rw [q1]
      show ((bb e1).bind fun r => match r with
        | .nx e2 => forD gt bb zs e2
        | .ct e2 => forD gt bb zs e2
        | .bk e2 => some (.nx e2)
        | .rt d => some (.rt d)) = _
      rw [q2]
      exact r1
  exact key items 0 env (List.drop_zero ..) h0 (by simp)
theorem for_of {fi : Fs} {gt : PyData → SE → Option SE} {bb : Fb} {items : List PyData} (h : fi env = some items) : bFor fi gt bb env = forD gt bb items env := by unfold bFor; rw [h]; rfl
/-! a def's call -/
theorem mk_rt {n N : Nat} {bb : Fb} {ds : List PyData} (h : bb (ds.map .dat ++ List.replicate (N - n) .no) = some (.rt (.dat d))) : mk n N bb ds = some d := by unfold mk; rw [h]; rfl
theorem mk_nx {n N : Nat} {bb : Fb} {ds : List PyData} (h : bb (ds.map .dat ++ List.replicate (N - n) .no) = some (.nx env')) : mk n N bb ds = some .none := by unfold mk; rw [h]; rfl
end
/-! built-ins at data -/
theorem gEq_of {d e : PyData} (h : dep d = true) : gEq d e = some (.bool (PyData.eqv d e)) := if_pos h
theorem gNe_of {d e : PyData} (h : dep d = true) : gNe d e = some (.bool (!PyData.eqv d e)) := if_pos h
theorem gIn_of {d : PyData} {xs : List PyData} (h : dep d = true) : gIn d (.list xs) = some (.bool (inD d xs)) := if_pos h
theorem gNotIn_of {d : PyData} {xs : List PyData} (h : dep d = true) : gNotIn d (.list xs) = some (.bool (!inD d xs)) := if_pos h
theorem eqv_int (x y : Int) : PyData.eqv (.int x) (.int y) = (x == y) := rfl
theorem alike_int (j : Nat) (x y : Int) : m__law_alike (j + 1) [.int x, .int y] = some (.bool (x == y)) := rfl
theorem alike_bool (j : Nat) (x y : Bool) : m__law_alike (j + 1) [.bool x, .bool y] = some (.bool (x == y)) := by cases x <;> cases y <;> rfl
end DL

/-! Pl2: plain facts of lists of data. -/
namespace DL
open PySem PySem.Spec PyProof.Rows L2

/-! ### the same data -/
mutual
def sameD : PyData → PyData → Bool
  | .none, .none => true
  | .bool a, .bool b => a == b
  | .int a, .int b => a == b
  | .list a, .list b => sameL a b
  | .tuple a, .tuple b => sameL a b
  | _, _ => false
def sameL : List PyData → List PyData → Bool
  | [], [] => true
  | a :: r, b :: s => sameD a b && sameL r s
  | _, _ => false
end
mutual
theorem sameD_eq : ∀ {a b : PyData}, sameD a b = true → a = b
  | .none, .none, _ => rfl
  | .bool a, .bool b, h => by
    have h' : (a == b) = true := h
    rw [eq_of_beq h']
  | .int a, .int b, h => by
    have h' : (a == b) = true := h
    rw [eq_of_beq h']
  | .list a, .list b, h => by
    have h' : sameL a b = true := h
    rw [sameL_eq h']
  | .tuple a, .tuple b, h => by
    have h' : sameL a b = true := h
    rw [sameL_eq h']
  | .str _, .str _, h => by simp [sameD] at h
  | .dict _, .dict _, h => by simp [sameD] at h
  | .none, .bool _, h | .none, .int _, h | .none, .str _, h | .none, .list _, h | .none, .tuple _, h | .none, .dict _, h => by simp [sameD] at h
  | .bool _, .none, h | .bool _, .int _, h | .bool _, .str _, h | .bool _, .list _, h | .bool _, .tuple _, h | .bool _, .dict _, h => by simp [sameD] at h
  | .int _, .none, h | .int _, .bool _, h | .int _, .str _, h | .int _, .list _, h | .int _, .tuple _, h | .int _, .dict _, h => by simp [sameD] at h
  | .str _, .none, h | .str _, .bool _, h | .str _, .int _, h | .str _, .list _, h | .str _, .tuple _, h | .str _, .dict _, h => by simp [sameD] at h
  | .list _, .none, h | .list _, .bool _, h | .list _, .int _, h | .list _, .str _, h | .list _, .tuple _, h | .list _, .dict _, h => by simp [sameD] at h
  | .tuple _, .none, h | .tuple _, .bool _, h | .tuple _, .int _, h | .tuple _, .str _, h | .tuple _, .list _, h | .tuple _, .dict _, h => by simp [sameD] at h
  | .dict _, .none, h | .dict _, .bool _, h | .dict _, .int _, h | .dict _, .str _, h | .dict _, .list _, h | .dict _, .tuple _, h => by simp [sameD] at h
theorem sameL_eq : ∀ {a b : List PyData}, sameL a b = true → a = b
  | [], [], _ => rfl
  | a :: r, b :: s, h => by
    have h' : (sameD a b && sameL r s) = true := h
    obtain ⟨h1, h2⟩ := Bool.and_eq_true_iff.mp h'
    rw [sameD_eq h1, sameL_eq h2]
  | [], _ :: _, h => by simp [sameL] at h
  | _ :: _, [], h => by simp [sameL] at h
end
def sameO : Option PyData → Option PyData → Bool
  | some a, some b => sameD a b
  | _, _ => false
theorem sameO_eq {a b : Option PyData} (h : sameO a b = true) : a = b := by
  cases a with
  | none => cases b <;> cases h
  | some x =>
    cases b with
    | none => cases h
    | some y => rw [sameD_eq (show sameD x y = true from h)]

/-! ### places in a list of things that differ -/
def pwB : List PyData → Bool
  | [] => true
  | x :: r => r.all (fun y => !PyData.eqv x y && !PyData.eqv y x) && pwB r
theorem inD_mem {g : PyData} {l : List PyData} (hg : g ∈ l) (hr : PyData.eqv g g = true) : inD g l = true := List.any_eq_true.mpr ⟨g, hg, hr⟩
theorem idx_mem {g : PyData} : ∀ {l : List PyData}, pwB l = true → g ∈ l → PyData.eqv g g = true → ∃ k, idxD g l = some k ∧ l[k]? = some g
  | [], _, h, _ => nomatch h
  | x :: r, hp, hg, hr => by
    obtain ⟨p1, p2⟩ := Bool.and_eq_true_iff.mp (show (r.all (fun y => !PyData.eqv x y && !PyData.eqv y x) && pwB r) = true from hp)
    unfold idxD
    rcases List.mem_cons.mp hg with e | e
    · subst e
      rw [if_pos hr]
      exact ⟨0, rfl, rfl⟩
    · have q := List.all_eq_true.mp p1 g e
      obtain ⟨q1, q2⟩ := Bool.and_eq_true_iff.mp q
      have q3 : PyData.eqv x g = false := by simpa using q1
      rw [if_neg (by rw [q3]; exact Bool.false_ne_true)]
      obtain ⟨k, k1, k2⟩ := idx_mem p2 e hr
      exact ⟨k + 1, by rw [k1]; rfl, k2⟩

/-! ### greatest ints -/
theorem foldl_max_ge : ∀ (l : List Int) (a : Int), a ≤ l.foldl max a ∧ ∀ x ∈ l, x ≤ l.foldl max a
  | [], a => ⟨Int.le_refl _, fun x h => nomatch h⟩
  | y :: r, a => by
    obtain ⟨h1, h2⟩ := foldl_max_ge r (max a y)
    rw [List.foldl_cons]
    refine ⟨by omega, fun x hx => ?_⟩
    rcases List.mem_cons.mp hx with e | e
    · subst e; omega
    · exact h2 x e
theorem foldl_max_in : ∀ (l : List Int) (a : Int), l.foldl max a = a ∨ l.foldl max a ∈ l
  | [], a => .inl rfl
  | y :: r, a => by
    rw [List.foldl_cons]
    rcases foldl_max_in r (max a y) with h | h
    · rw [h]
      by_cases c : a ≤ y
      · have : max a y = y := by omega
        rw [this]; exact .inr List.mem_cons_self
      · have : max a y = a := by omega
        rw [this]; exact .inl rfl
    · exact .inr (List.mem_cons_of_mem _ h)
theorem allB_of {p : PyData → Bool} : ∀ {l : List PyData}, (∀ x ∈ l, p x = true) → allB p l = true
  | [], _ => rfl
  | x :: r, h => by
    show (p x && allB p r) = true
    rw [h x List.mem_cons_self, allB_of fun y hy => h y (List.mem_cons_of_mem _ hy)]
    rfl
theorem alikeB_of {l : List PyData} (h : ∀ x ∈ l, ∀ y ∈ l, PySem.W.alike x y = true) : alikeB l = true := allB_of fun x hx => allB_of fun y hy => h x hx y hy
theorem gMax_of {x : PyData} {r : List PyData} (h1 : ∀ a ∈ x :: r, ∀ b ∈ x :: r, PySem.W.alike a b = true) (h2 : ∀ a ∈ x :: r, notN a = true ∧ dep a = true) : gMax [.list (x :: r)] = some (PySem.W.maxD x r) := by
  show (if (alikeB (x :: r) && (allB notN (x :: r) && allB dep (x :: r))) = true then some (PySem.W.maxD x r) else none) = _
  rw [if_pos]
  rw [alikeB_of h1, allB_of fun a ha => (h2 a ha).1, allB_of fun a ha => (h2 a ha).2]
  rfl
/-- max of ints, at least one -/
theorem gMax_ints {l : List Int} (h : l ≠ []) : ∃ m, gMax [.list (l.map .int)] = some (.int m) ∧ m ∈ l ∧ ∀ x ∈ l, x ≤ m := by
  cases l with
  | nil => exact absurd rfl h
  | cons a r =>
    refine ⟨r.foldl max a, ?_, ?_, ?_⟩
    · have e := gMax_of (x := .int a) (r := r.map .int) (fun x hx y hy => ?_) fun x hx => ?_
      · rw [List.map_cons, e, PySem.W.maxD_ints]
      · have hx' : x ∈ (a :: r).map PyData.int := hx
        have hy' : y ∈ (a :: r).map PyData.int := hy
        obtain ⟨i, _, rfl⟩ := List.mem_map.mp hx'
        obtain ⟨j, _, rfl⟩ := List.mem_map.mp hy'
        rfl
      · have hx' : x ∈ (a :: r).map PyData.int := hx
        obtain ⟨i, _, rfl⟩ := List.mem_map.mp hx'
        exact ⟨rfl, rfl⟩
    · rcases foldl_max_in r a with e | e
      · rw [e]; exact List.mem_cons_self
      · exact List.mem_cons_of_mem _ e
    · intro x hx
      obtain ⟨h1, h2⟩ := foldl_max_ge r a
      rcases List.mem_cons.mp hx with e | e
      · rw [e]; exact h1
      · exact h2 x e
/-- max of (int, thing) -/
def prD (W : PyData → Int) (g : PyData) : PyData := .tuple [.int (W g), g]
theorem lt_pr {W : PyData → Int} {g h : PyData} (ha : PySem.W.alike g h = true) : (PySem.W.dataLt (prD W g) (prD W h) = true → W g ≤ W h) ∧ (PySem.W.dataLt (prD W g) (prD W h) = false → W h ≤ W g) := by
  unfold prD
  rw [PySem.W.dataLt_pair (x := .int (W g)) (x' := .int (W h)) rfl ha, PySem.W.dataLt_int, eqv_int]
  by_cases e : W g = W h
  · rw [e]
    exact ⟨fun _ => Int.le_refl _, fun _ => Int.le_refl _⟩
  · have e2 : (W g == W h) = false := by simpa using e
    rw [e2, if_neg Bool.false_ne_true]
    constructor
    · intro z
      have := of_decide_eq_true z
      omega
    · intro z
      have := of_decide_eq_false z
      omega
theorem maxD_pr {W : PyData → Int} {GS : List PyData} (hal : ∀ g ∈ GS, ∀ h ∈ GS, PySem.W.alike g h = true) : ∀ (r : List PyData) (g : PyData), g ∈ GS → (∀ h ∈ r, h ∈ GS) → ∃ b, b ∈ g :: r ∧ PySem.W.maxD (prD W g) (r.map (prD W)) = prD W b ∧ ∀ h ∈ g :: r, W h ≤ W b
  | [], g, _, _ => ⟨g, List.mem_cons_self, rfl, fun h hh => by rw [List.mem_singleton.mp hh]; exact Int.le_refl _⟩
  | x :: r, g, hg, hr => by
    have hx := hr x List.mem_cons_self
    have hr' : ∀ h ∈ r, h ∈ GS := fun h hh => hr h (List.mem_cons_of_mem _ hh)
    obtain ⟨l1, l2⟩ := lt_pr (W := W) (hal g hg x hx)
    have e : PySem.W.maxD (prD W g) ((x :: r).map (prD W)) = PySem.W.maxD (if PySem.W.dataLt (prD W g) (prD W x) = true then prD W x else prD W g) (r.map (prD W)) := rfl
    cases c : PySem.W.dataLt (prD W g) (prD W x) with
    | true =>
      rw [c, if_pos rfl] at e
      obtain ⟨b, b1, b2, b3⟩ := maxD_pr hal r x hx hr'
      refine ⟨b, List.mem_cons_of_mem _ b1, by rw [e, b2], fun h hh => ?_⟩
      rcases List.mem_cons.mp hh with z | z
      · rw [z]
        have := l1 c
        have := b3 x List.mem_cons_self
        omega
      · exact b3 h z
    | false =>
      rw [c, if_neg Bool.false_ne_true] at e
      obtain ⟨b, b1, b2, b3⟩ := maxD_pr hal r g hg hr'
      refine ⟨b, ?_, by rw [e, b2], fun h hh => ?_⟩
      · rcases List.mem_cons.mp b1 with z | z
        · rw [z]; exact List.mem_cons_self
        · exact List.mem_cons_of_mem _ (List.mem_cons_of_mem _ z)
      · rcases List.mem_cons.mp hh with z | z
        · rw [z]; exact b3 g List.mem_cons_self
        · rcases List.mem_cons.mp z with z | z
          · rw [z]
            have := l2 c
            have := b3 g List.mem_cons_self
            omega
          · exact b3 h (List.mem_cons_of_mem _ z)
theorem alike_pr {W : PyData → Int} {g h : PyData} (ha : PySem.W.alike g h = true) : PySem.W.alike (prD W g) (prD W h) = true := by
  show (PySem.W.alike (.int (W g)) (.int (W h)) && (PySem.W.alike g h && PySem.W.alikeAll [] [])) = true
  rw [ha] <;> rfl
theorem depth_pr {W : PyData → Int} {g : PyData} (h : g.depth ≤ 50) : dep (prD W g) = true := by
  refine decide_eq_true ?_
  unfold prD
  simp only [PyData.depth, PyData.depthAll]
  omega
end DL

/-! Pl3: what the defs compute, over the facts of a size and likings. -/
namespace DL
open PySem PySem.Spec PyProof.Rows L2

def enlist : PyData → List PyData
  | .tuple xs => xs
  | .list xs => xs
  | _ => []
/-- the facts of a size n and likings lk: the groupings GS, the steps ST, the worths W, who is calm C, the grouping behind a step nx -/
structure Fx (n : Int) (lk : PyData) (GS ST : List PyData) (W : PyData → Int) (C : PyData → Bool) (nx : PyData → PyData → PyData) : Prop where
  n1 : 1 ≤ n
  n4 : n ≤ 4
  gs1 : m_all_groupings [.int n] = some (.list GS)
  st1 : m_all_steps [.int n] = some (.list ST)
  st2 : m__law_steps [.int n] = some (.list ST)
  ne : GS ≠ []
  few : GS.length ≤ 15
  sne : ST ≠ []
  sfew : ST.length ≤ 10
  w1 : ∀ g ∈ GS, m_worth_of [g, lk] = some (.int (W g))
  w2 : ∀ g ∈ GS, m__law_worth [g, lk] = some (.int (W g))
  ng : ∀ g ∈ GS, m_need_grouping [g] = some .none
  sz : ∀ g ∈ GS, m_size_of [g] = some (.int n)
  ig : ∀ g ∈ GS, m_is_grouping [g] = some (.bool true)
  nl : m_need_likings [.int n, lk] = some .none
  nd : m_need_liked [.int n, lk] = some .none
  sp1 : ∀ g ∈ GS, ∀ s ∈ ST, m_stepped [g, s] = some (nx g s)
  sp2 : ∀ g ∈ GS, ∀ s ∈ ST, m__law_step [g, s] = some (nx g s)
  sp3 : ∀ g ∈ GS, ∀ s ∈ ST, nx g s ∈ GS
  c1 : ∀ g ∈ GS, m_calm [g, lk] = some (.bool (C g))
  c2 : ∀ g ∈ GS, m__law_calm [g, lk] = some (.bool (C g))
  tup : ∀ g ∈ GS, g = .tuple (enlist g)
  dp : ∀ g ∈ GS, g.depth ≤ 50
  sh : ∀ g ∈ GS, SeqAt.shaped g = true
  shs : SeqAt.shaped (.list GS) = true
  pw : pwB GS = true
  rf : ∀ g ∈ GS, PyData.eqv g g = true
  al : ∀ g ∈ GS, ∀ h ∈ GS, PySem.W.alike g h = true
  lots : ∀ m : Int, 1 ≤ m → m ≤ n → ∃ g ∈ GS, ((enlist g).length : Int) = m
  bad1 : inD (.tuple []) GS = false
  bad2 : inD (.tuple [.tuple [.int 0, .int n]]) GS = false
  bad3 : ∃ b s, m_is_grouping [.tuple [.tuple [.int 0, .int n]]] = some (.bool b) ∧ m_size_of [.tuple [.tuple [.int 0, .int n]]] = some (.int s) ∧ (b = true → (s == n) = false)
  ag : ∀ g ∈ GS, m__law_alike 5 [g, g] = some (.bool true)
  as : ∀ s ∈ ST, m__law_alike 5 [s, s] = some (.bool true)
theorem is_in_int (x lo hi : Int) : m_is_in [.int x, .int lo, .int hi] = some (.bool (decide (lo ≤ x ∧ x ≤ hi))) := by
  refine mk_rt (ret_of ?_)
  refine Eq.trans (va_t rfl) (Eq.trans (va_t rfl) ?_)
  show (if lo ≤ x then gLe (.int x) (.int hi) else some (.bool false)) = _
  by_cases h : lo ≤ x
  · rw [if_pos h]
    show some (PyData.bool (decide (x ≤ hi))) = _
    congr 2
    by_cases h2 : x ≤ hi
    · rw [decide_eq_true h2, decide_eq_true ⟨h, h2⟩]
    · rw [decide_eq_false h2, decide_eq_false fun z => h2 z.2]
  · rw [if_neg h, decide_eq_false fun z => h z.1]
section
variable {n : Int} {lk : PyData} {GS ST : List PyData} {W : PyData → Int} {C : PyData → Bool} {nx : PyData → PyData → PyData} {g : PyData}
variable (F : Fx n lk GS ST W C nx)
include F
theorem Fx.worth (hg : g ∈ GS) : m_worth [g, lk] = some (.int (W g)) := by
  refine mk_rt ?_
  refine Eq.trans (seq_nx (do_of (Eq.trans (c1_of (var_at rfl)) (F.ng g hg)))) ?_
  refine Eq.trans (seq_nx (do_of (Eq.trans (c2_of (Eq.trans (c1_of (var_at rfl)) (F.sz g hg)) (var_at rfl)) F.nl))) ?_
  exact ret_of (Eq.trans (c2_of (var_at rfl) (var_at rfl)) (F.w1 g hg))
theorem Fx.is_calm (hg : g ∈ GS) : m_is_calm [g, lk] = some (.bool (C g)) := by
  refine mk_rt ?_
  refine Eq.trans (seq_nx (do_of (Eq.trans (c1_of (var_at rfl)) (F.ng g hg)))) ?_
  refine Eq.trans (seq_nx (do_of (Eq.trans (c2_of (Eq.trans (c1_of (var_at rfl)) (F.sz g hg)) (var_at rfl)) F.nl))) ?_
  exact ret_of (Eq.trans (c2_of (var_at rfl) (var_at rfl)) (F.c1 g hg))
/-- the pairs (worth, grouping) and their greatest -/
theorem Fx.best_of : ∃ b ∈ GS, m_best_of [.int n, lk] = some (prD W b) ∧ ∀ h ∈ GS, W h ≤ W b := by
  obtain ⟨x, r, er⟩ : ∃ x r, GS = x :: r := by
    cases GS with
    | nil => exact absurd rfl F.ne
    | cons x r => exact ⟨x, r, rfl⟩
  have hm : ∀ h ∈ r, h ∈ GS := fun h hh => by rw [er]; exact List.mem_cons_of_mem _ hh
  have hx : x ∈ GS := by rw [er]; exact List.mem_cons_self
  obtain ⟨b, b1, b2, b3⟩ := maxD_pr (W := W) F.al r x hx hm
  have hb : b ∈ GS := by rw [er]; exact b1
  refine ⟨b, hb, ?_, fun h hh => b3 h (by rw [← er]; exact hh)⟩
  refine mk_rt (ret_of ?_)
  have hl : lcD 2 tYesD (fS gTup (sCons (fS (gN 2 m_worth_of) (sCons (fVar 2) (sCons (fVar 1) sNil))) (sCons (fVar 2) sNil))) [.dat (.int n), .dat lk, .no] GS = some (GS.map (prD W)) :=
    lcD_map fun d hd => Eq.trans (s2_of (Eq.trans (c2_of (var_at rfl) (var_at rfl)) (F.w1 d hd)) (var_at rfl)) rfl
  refine Eq.trans (s1_of (lc_of (il_of (Eq.trans (c1_of (var_at rfl)) F.gs1)) hl (by rw [List.length_map]; have := F.few; omega))) ?_
  have hmem : ∀ z ∈ prD W x :: r.map (prD W), ∃ h ∈ GS, z = prD W h := fun z hz => by
    have hz' : z ∈ (x :: r).map (prD W) := hz
    obtain ⟨h, h1, h2⟩ := List.mem_map.mp hz'
    exact ⟨h, by rw [er]; exact h1, h2.symm⟩
  rw [er, List.map_cons, gMax_of, b2]
  · intro p hp q hq
    obtain ⟨h, h1, rfl⟩ := hmem p hp
    obtain ⟨k, k1, rfl⟩ := hmem q hq
    exact alike_pr (F.al h h1 k k1)
  · intro p hp
    obtain ⟨h, h1, rfl⟩ := hmem p hp
    exact ⟨rfl, depth_pr (F.dp h h1)⟩
theorem Fx.best_grouping {b : PyData} (h : m_best_of [.int n, lk] = some (prD W b)) : m_best_grouping [.int n, lk] = some (prD W b) := by
  refine mk_rt ?_
  refine Eq.trans (seq_nx (do_of (Eq.trans (c2_of (var_at rfl) (var_at rfl)) F.nd))) ?_
  exact ret_of (Eq.trans (c2_of (var_at rfl) (var_at rfl)) h)
theorem Fx.lots_ok {m : Int} (h1 : 1 ≤ m) (h2 : m ≤ n) : ∃ x, gMax [.list (((GS.filter fun g => decide (((enlist g).length : Int) = m)).map W).map .int)] = some (.int x) ∧ m_best_of_lots [.int n, lk, .int m] = some (.int x) := by
  obtain ⟨g0, hg0, e0⟩ := F.lots m h1 h2
  have hne : (GS.filter fun g => decide (((enlist g).length : Int) = m)).map W ≠ [] := fun z => by
    have z2 := List.map_eq_nil_iff.mp z
    have : g0 ∈ GS.filter fun g => decide (((enlist g).length : Int) = m) := List.mem_filter.mpr ⟨hg0, decide_eq_true e0⟩
    rw [z2] at this
    cases this
  obtain ⟨x, x1, _, _⟩ := gMax_ints hne
  refine ⟨x, x1, ?_⟩
  refine mk_rt ?_
  refine Eq.trans (seq_nx (do_of (Eq.trans (c2_of (var_at rfl) (var_at rfl)) F.nd))) ?_
  have hin : m_is_in [.int m, .int 1, .int n] = some (.bool true) := by rw [is_in_int, decide_eq_true ⟨h1, h2⟩]
  refine Eq.trans (seq_nx (skip_of (not_of (tru_of' (Eq.trans (c3_of (var_at rfl) rfl (var_at rfl)) hin) rfl)))) ?_
  refine ret_of ?_
  have hl : lcD 3 (fBt (b2 gEq (fS gLen (sCons (fVar 3) sNil)) (fVar 2))) (fS (gN 2 m_worth_of) (sCons (fVar 3) (sCons (fVar 1) sNil))) [.dat (.int n), .dat lk, .dat (.int m), .no] GS = some ((GS.filter fun g => decide (((enlist g).length : Int) = m)).map fun g => .int (W g)) := by
    refine lcD_filter fun d hd => ⟨bt_of ?_, fun _ => Eq.trans (c2_of (var_at rfl) (var_at rfl)) (F.w1 d hd)⟩
    have e1 := F.tup d hd
    refine Eq.trans (b2_of (Eq.trans (s1_of (var_at rfl)) (by rw [e1]; rfl)) (var_at rfl)) ?_
    rw [gEq_of rfl, eqv_int]
    congr 2
  refine Eq.trans (s1_of (lc_of (il_of (Eq.trans (c1_of (var_at rfl)) F.gs1)) hl ?_)) ?_
  · rw [List.length_map]
    have := List.length_filter_le (fun g => decide (((enlist g).length : Int) = m)) GS
    have := F.few
    omega
  · rw [List.map_map] at x1
    exact x1
end
end DL

/-! Pl4: likeness, showing the best, the calm ones, climbing. -/
namespace DL
open PySem PySem.Spec PyProof.Rows L2

theorem asRg_nat {k : Nat} (h : k ≤ 1000) : asRg (.int (k : Int)) = some (rgD 0 k) := by
  show (if -1000 ≤ (k : Int) ∧ (k : Int) ≤ 1000 then some (rgD 0 (k : Int).toNat) else none) = _
  rw [if_pos ⟨by omega, by omega⟩]
  rfl
theorem rgD_mem {k : Nat} {d : PyData} (h : d ∈ rgD 0 k) : ∃ i : Nat, i < k ∧ d = .int (i : Int) := by
  obtain ⟨i, h1, h2⟩ := List.mem_map.mp h
  refine ⟨i, List.mem_range.mp h1, ?_⟩
  rw [← h2, Int.zero_add]
theorem gIx_tup {xs : List PyData} {i : Nat} {x : PyData} (h : xs[i]? = some x) : gIx (.tuple xs) (.int (i : Int)) = some x := by
  exact L2.atI_nat h
theorem gIx_lst {xs : List PyData} {i : Nat} {x : PyData} (h : xs[i]? = some x) : gIx (.list xs) (.int (i : Int)) = some x := by
  exact L2.atI_nat h
/-- tuples of alike things -/
theorem alike_tup {j : Nat} {xs : List PyData} (hs : xs.length ≤ 1000) (h : ∀ x ∈ xs, m__law_alike j [x, x] = some (.bool true)) : m__law_alike (j + 1) [.tuple xs, .tuple xs] = some (.bool true) := by
  show mk 2 3 (b__law_alike (m__law_alike j)) [.tuple xs, .tuple xs] = _
  refine mk_rt ?_
  refine seq_rt ?_
  refine Eq.trans (if_t (tru_of' (Eq.trans (f1_of (var_at rfl)) rfl) rfl)) ?_
  refine Eq.trans (seq_nx (skip_of (Eq.trans (or_f rfl) rfl))) ?_
  have e0 : (fBt (b2 gNe (fS gLen (sCons (fVar 0) sNil)) (fS gLen (sCons (fVar 1) sNil)))) (List.map Slot.dat [PyData.tuple xs, PyData.tuple xs] ++ List.replicate (3 - 2) Slot.no) = some false := by
    refine bt_of (Eq.trans (b2_of (Eq.trans (s1_of (var_at rfl)) (rfl : gLen [.tuple xs] = some (.int xs.length))) (Eq.trans (s1_of (var_at rfl)) (rfl : gLen [.tuple xs] = some (.int xs.length)))) ?_)
    rw [gNe_of rfl, eqv_int]
    simp
  refine Eq.trans (seq_nx (skip_of e0)) ?_
  refine ret_of ?_
  have hl : lcD 2 (fNotT (fTru (fS (gN 2 (m__law_alike j)) (sCons (b2 gIx (fVar 0) (fVar 2)) (sCons (b2 gIx (fVar 1) (fVar 2)) sNil))))) (fVar 2) [.dat (.tuple xs), .dat (.tuple xs), .no] (rgD 0 xs.length) = some (((rgD 0 xs.length).filter fun _ => false).map id) := by
    refine lcD_filter fun d hd => ⟨?_, fun z => nomatch z⟩
    obtain ⟨i, hi, rfl⟩ := rgD_mem hd
    obtain ⟨x, hx⟩ : ∃ x, xs[i]? = some x := ⟨xs[i], List.getElem?_eq_getElem hi⟩
    have hm : x ∈ xs := List.mem_of_getElem? hx
    have q := Eq.trans (b2_of (env := List.set [.dat (.tuple xs), .dat (.tuple xs), .no] 2 (.dat (.int (i : Int)))) (g := gIx) (var_at (i := 0) rfl) (var_at (i := 2) rfl)) (gIx_tup hx)
    have q2 := Eq.trans (b2_of (env := List.set [.dat (.tuple xs), .dat (.tuple xs), .no] 2 (.dat (.int (i : Int)))) (g := gIx) (var_at (i := 1) rfl) (var_at (i := 2) rfl)) (gIx_tup hx)
    refine Eq.trans (not_of (tru_of' (Eq.trans (c2_of q q2) (h x hm)) rfl)) rfl
  have e9 : (((rgD 0 xs.length).filter fun _ => false).map id) = ([] : List PyData) := by rw [List.filter_eq_nil_iff.mpr fun _ _ => Bool.false_ne_true]; rfl
  rw [e9] at hl
  have e1 : (iSeq asRg (fS gLen (sCons (fVar 1) sNil))) (List.map Slot.dat [PyData.tuple xs, PyData.tuple xs] ++ List.replicate (3 - 2) Slot.no) = some (rgD 0 xs.length) := by
    unfold iSeq
    rw [Eq.trans (s1_of (var_at rfl)) (rfl : gLen [.tuple xs] = some (.int xs.length))]
    exact asRg_nat hs
  exact Eq.trans (b2_of (lc_of e1 hl (Nat.zero_le _)) rfl) rfl

section
variable {n : Int} {lk : PyData} {GS ST : List PyData} {W : PyData → Int} {C : PyData → Bool} {nx : PyData → PyData → PyData} {g b : PyData}
variable (F : Fx n lk GS ST W C nx)
include F
/-- does a value show the best: up to the first test -/
abbrev shRest : Fb := (bSeq (bIf (fOrT (fNotT (fTru (f1 (uIs PyData.isTuple) (fVar 2)))) (fOrT (fBt (b2 gNe (fS gLen (sCons (fVar 2) sNil)) (fC (.int 2)))) (fNotT (fTru (fS (gN 3 m_is_in) (sCons (b2 gIx (fVar 2) (fC (.int 0))) (sCons (fVar 3) (sCons (fVar 3) sNil)))))))) (bRet (fC (.bool false))) bNx) (bSeq (bIf (fOrT (fNotT (fTru (fS (gN 1 m_is_grouping) (sCons (b2 gIx (fVar 2) (fC (.int 1))) sNil)))) (fBt (b2 gNe (fS (gN 1 m_size_of) (sCons (b2 gIx (fVar 2) (fC (.int 1))) sNil)) (fVar 0)))) (bRet (fC (.bool false))) bNx) (bRet (b2 gEq (fS (gN 2 m_worth_of) (sCons (b2 gIx (fVar 2) (fC (.int 1))) (sCons (fVar 1) sNil))) (fVar 3)))))
theorem Fx.sh0 (hb : m_best_of [.int n, lk] = some (prD W b)) {v d : PyData} (h : shRest [.dat (.int n), .dat lk, .dat v, .dat (.int (W b))] = some (.rt (.dat d))) : m_shows_best_grouping [.int n, lk, v] = some d := by
  refine mk_rt ?_
  refine Eq.trans (seq_nx (do_of (Eq.trans (c2_of (var_at rfl) (var_at rfl)) F.nd))) ?_
  refine Eq.trans (seq_nx (set_of (d := .int (W b)) (Eq.trans (b2_of (b := .int 0) (Eq.trans (c2_of (var_at rfl) (var_at rfl)) hb) rfl) rfl))) ?_
  exact h
/-- no tuple -/
theorem Fx.sh1 (hb : m_best_of [.int n, lk] = some (prD W b)) {v : PyData} (h : v.isTuple = false) : m_shows_best_grouping [.int n, lk, v] = some (.bool false) := by
  refine F.sh0 hb (seq_rt (Eq.trans (if_t (or_t ?_)) rfl))
  refine Eq.trans (not_of (tru_of' (Eq.trans (f1_of (var_at rfl)) rfl) rfl)) ?_
  rw [h]; rfl
theorem Fx.shIn {M : Int} {x : PyData} (k : Int) : (fOrT (fNotT (fTru (f1 (uIs PyData.isTuple) (fVar 2)))) (fOrT (fBt (b2 gNe (fS gLen (sCons (fVar 2) sNil)) (fC (.int 2)))) (fNotT (fTru (fS (gN 3 m_is_in) (sCons (b2 gIx (fVar 2) (fC (.int 0))) (sCons (fVar 3) (sCons (fVar 3) sNil)))))))) [.dat (.int n), .dat lk, .dat (.tuple [.int k, x]), .dat (.int M)] = some (!decide (M ≤ k ∧ k ≤ M)) := by
  refine Eq.trans (or_f rfl) (Eq.trans (or_f rfl) ?_)
  exact not_of (tru_of' (Eq.trans (c3_of (Eq.trans (b2_of (var_at rfl) rfl) rfl) (var_at rfl) (var_at rfl)) (is_in_int k M M)) rfl)
/-- another number -/
theorem Fx.sh2 (hb : m_best_of [.int n, lk] = some (prD W b)) {x : PyData} : m_shows_best_grouping [.int n, lk, .tuple [.int (W b + 1), x]] = some (.bool false) := by
  refine F.sh0 hb (seq_rt (Eq.trans (if_t ?_) rfl))
  rw [F.shIn, decide_eq_false (by omega)]
  rfl
/-- no grouping -/
theorem Fx.sh3 (hb : m_best_of [.int n, lk] = some (prD W b)) {x : PyData} {y : Bool} {s : Int} (h1 : m_is_grouping [x] = some (.bool y)) (h2 : y = true → m_size_of [x] = some (.int s) ∧ (s == n) = false) : m_shows_best_grouping [.int n, lk, .tuple [.int (W b), x]] = some (.bool false) := by
  refine F.sh0 hb (Eq.trans (seq_nx (skip_of ?_)) (seq_rt (Eq.trans (if_t ?_) rfl)))
  · rw [F.shIn, decide_eq_true (by omega)]
    rfl
  · cases y with
    | false => exact or_t (not_of (tru_of' (Eq.trans (c1_of (Eq.trans (b2_of (var_at rfl) rfl) rfl)) h1) rfl))
    | true =>
      obtain ⟨k1, k2⟩ := h2 rfl
      refine Eq.trans (or_f (not_of (tru_of' (Eq.trans (c1_of (Eq.trans (b2_of (var_at rfl) rfl) rfl)) h1) rfl))) ?_
      refine bt_of (Eq.trans (b2_of (Eq.trans (c1_of (Eq.trans (b2_of (var_at rfl) rfl) rfl)) k1) (var_at rfl)) ?_)
      rw [gNe_of rfl, eqv_int, k2]
      rfl
/-- a grouping -/
theorem Fx.sh4 (hb : m_best_of [.int n, lk] = some (prD W b)) (hg : g ∈ GS) : m_shows_best_grouping [.int n, lk, .tuple [.int (W b), g]] = some (.bool (W g == W b)) := by
  refine F.sh0 hb (Eq.trans (seq_nx (skip_of ?_)) (Eq.trans (seq_nx (skip_of ?_)) (ret_of ?_)))
  · rw [F.shIn, decide_eq_true (by omega)]
    rfl
  · refine Eq.trans (or_f (not_of (tru_of' (Eq.trans (c1_of (Eq.trans (b2_of (var_at rfl) rfl) rfl)) (F.ig g hg)) rfl))) ?_
    refine bt_of (Eq.trans (b2_of (Eq.trans (c1_of (Eq.trans (b2_of (var_at rfl) rfl) rfl)) (F.sz g hg)) (var_at rfl)) ?_)
    rw [gNe_of rfl, eqv_int, beq_self_eq_true]
    rfl
  · exact Eq.trans (b2_of (Eq.trans (c2_of (Eq.trans (b2_of (var_at rfl) rfl) rfl) (var_at rfl)) (F.w1 g hg)) (var_at rfl)) rfl
theorem Fx.calm_ones : m_calm_ones [.int n, lk] = some (.tuple (GS.filter C)) := by
  refine mk_rt ?_
  refine Eq.trans (seq_nx (do_of (Eq.trans (c2_of (var_at rfl) (var_at rfl)) F.nd))) ?_
  refine ret_of ?_
  have hl : lcD 2 (fTru (fS (gN 2 m_calm) (sCons (fVar 2) (sCons (fVar 1) sNil)))) (fVar 2) [.dat (.int n), .dat lk, .no] GS = some ((GS.filter C).map id) :=
    lcD_filter fun d hd => ⟨tru_of' (Eq.trans (c2_of (var_at rfl) (var_at rfl)) (F.c1 d hd)) rfl, fun _ => var_at rfl⟩
  rw [List.map_id] at hl
  refine Eq.trans (s1_of (lc_of (il_of (Eq.trans (c1_of (var_at rfl)) F.gs1)) hl ?_)) rfl
  have := List.length_filter_le C GS
  have := F.few
  omega
end
end DL

/-! Pl5: climbing. -/
namespace DL
open PySem PySem.Spec PyProof.Rows L2

/-- the first of the greatest -/
def amx (f : PyData → Int) : PyData → List PyData → PyData
  | a, [] => a
  | a, x :: r => if f a < f x then amx f x r else amx f a r
theorem amx_mem (f : PyData → Int) : ∀ (r : List PyData) (a : PyData), amx f a r ∈ a :: r
  | [], a => List.mem_cons_self
  | x :: r, a => by
    unfold amx
    by_cases c : f a < f x
    · rw [if_pos c]; exact List.mem_cons_of_mem _ (amx_mem f r x)
    · rw [if_neg c]
      rcases List.mem_cons.mp (amx_mem f r a) with e | e
      · rw [e]; exact List.mem_cons_self
      · exact List.mem_cons_of_mem _ (List.mem_cons_of_mem _ e)
theorem amx_ge (f : PyData → Int) : ∀ (r : List PyData) (a : PyData), ∀ x ∈ a :: r, f x ≤ f (amx f a r)
  | [], a, x, h => by rw [List.mem_singleton.mp h]; exact Int.le_refl _
  | y :: r, a, x, h => by
    unfold amx
    by_cases c : f a < f y
    · rw [if_pos c]
      rcases List.mem_cons.mp h with e | e
      · have := amx_ge f r y y List.mem_cons_self
        rw [e]; omega
      · exact amx_ge f r y x e
    · rw [if_neg c]
      have h0 := amx_ge f r a a List.mem_cons_self
      rcases List.mem_cons.mp h with e | e
      · rw [e]; exact h0
      · rcases List.mem_cons.mp e with e | e
        · rw [e]; omega
        · exact amx_ge f r a x (List.mem_cons_of_mem _ e)
theorem idxI {x M : Int} {l : List PyData} : idxD (.int M) (.int x :: l) = if x = M then some 0 else (idxD (.int M) l).bind fun j => some (j + 1) := by
  show (if PyData.eqv (.int x) (.int M) = true then some 0 else _) = _
  rw [eqv_int]
  by_cases c : x = M
  · rw [if_pos c, if_pos (by rw [c, beq_self_eq_true])]
  · rw [if_neg c, if_neg (by simpa using c)]
theorem amx_idx (f : PyData → Int) : ∀ (r : List PyData) (a : PyData), ∃ k, idxD (.int (f (amx f a r))) ((a :: r).map fun s => .int (f s)) = some k ∧ (a :: r)[k]? = some (amx f a r)
  | [], a => ⟨0, by rw [List.map_cons, idxI]; exact if_pos rfl, rfl⟩
  | x :: r, a => by
    rw [List.map_cons, idxI]
    unfold amx
    by_cases c : f a < f x
    · rw [if_pos c]
      have h1 := amx_ge f r x x List.mem_cons_self
      rw [if_neg (by omega)]
      obtain ⟨k, k1, k2⟩ := amx_idx f r x
      exact ⟨k + 1, by rw [k1]; rfl, k2⟩
    · rw [if_neg c]
      obtain ⟨k, k1, k2⟩ := amx_idx f r a
      have h1 := amx_ge f r a a List.mem_cons_self
      rw [List.map_cons, idxI] at k1
      by_cases d : f a = f (amx f a r)
      · rw [if_pos d] at k1 ⊢
        cases k1
        exact ⟨0, rfl, by simpa using k2⟩
      · rw [if_neg d] at k1 ⊢
        rw [List.map_cons, idxI, if_neg (by omega)]
        cases e : idxD (.int (f (amx f a r))) (r.map fun s => .int (f s)) with
        | none => rw [e] at k1; cases k1
        | some j =>
          rw [e] at k1
          cases k1
          exact ⟨j + 1 + 1, rfl, by simpa using k2⟩
theorem maxD_amx (f : PyData → Int) : ∀ (r : List PyData) (a : PyData), PySem.W.maxD (.int (f a)) (r.map fun s => .int (f s)) = .int (f (amx f a r))
  | [], a => rfl
  | x :: r, a => by
    show PySem.W.maxD (if PySem.W.dataLt (.int (f a)) (.int (f x)) = true then .int (f x) else .int (f a)) (r.map fun s => .int (f s)) = _
    rw [PySem.W.dataLt_int]
    unfold amx
    by_cases c : f a < f x
    · rw [if_pos c, decide_eq_true c, if_pos rfl, maxD_amx f r x]
    · rw [if_neg c, decide_eq_false c, if_neg Bool.false_ne_true, maxD_amx f r a]
theorem gMax_amx (f : PyData → Int) (r : List PyData) (a : PyData) : gMax [.list ((a :: r).map fun s => .int (f s))] = some (.int (f (amx f a r))) := by
  rw [List.map_cons, gMax_of, maxD_amx]
  · intro x hx y hy
    obtain ⟨i, _, rfl⟩ := List.mem_map.mp (show x ∈ (a :: r).map fun s => PyData.int (f s) from hx)
    obtain ⟨j, _, rfl⟩ := List.mem_map.mp (show y ∈ (a :: r).map fun s => PyData.int (f s) from hy)
    rfl
  · intro x hx
    obtain ⟨i, _, rfl⟩ := List.mem_map.mp (show x ∈ (a :: r).map fun s => PyData.int (f s) from hx)
    exact ⟨rfl, rfl⟩

/-! ### turns -/
section
variable (W : PyData → Int) (nx : PyData → PyData → PyData) (a : PyData) (r : List PyData)
/-- the step that is tried -/
def topS_ (c : PyData) : PyData := amx (fun s => W (nx c s)) a r
def turn1 (p : PyData × List PyData) : PyData × List PyData := if W p.1 < W (nx p.1 (topS_ W nx a r p.1)) then (nx p.1 (topS_ W nx a r p.1), p.2 ++ [topS_ W nx a r p.1]) else p
def turns : Nat → PyData × List PyData → PyData × List PyData
  | 0, p => p
  | k + 1, p => turns k (turn1 W nx a r p)
theorem turns_succ : ∀ (k : Nat) (p : PyData × List PyData), turns W nx a r (k + 1) p = turn1 W nx a r (turns W nx a r k p)
  | 0, _ => rfl
  | k + 1, p => turns_succ k (turn1 W nx a r p)
theorem turns_still (k : Nat) (p : PyData × List PyData) (h : turn1 W nx a r p = p) : turns W nx a r k p = p := by
  induction k with
  | zero => rfl
  | succ k ih =>
    show turns W nx a r k (turn1 W nx a r p) = p
    rw [h, ih]
def above (GS : List PyData) (c : PyData) : Nat := (GS.filter fun h => decide (W c < W h)).length
theorem above_le (GS : List PyData) (c : PyData) : above W GS c ≤ GS.length := List.length_filter_le _ _
end
theorem filter_mono {p q : PyData → Bool} : ∀ {l : List PyData}, (∀ x, p x = true → q x = true) → (l.filter p).length ≤ (l.filter q).length
  | [], _ => Nat.le_refl _
  | x :: l, h => by
    have ih := filter_mono (l := l) h
    rw [List.filter_cons, List.filter_cons]
    by_cases c : p x = true
    · rw [if_pos c, if_pos (h x c)]
      exact Nat.succ_le_succ ih
    · rw [if_neg c]
      by_cases d : q x = true
      · rw [if_pos d]; exact Nat.le_succ_of_le ih
      · rw [if_neg d]; exact ih
theorem filter_lt {p q : PyData → Bool} {y : PyData} : ∀ {l : List PyData}, (∀ x, p x = true → q x = true) → y ∈ l → q y = true → p y = false → (l.filter p).length < (l.filter q).length
  | [], _, h, _, _ => nomatch h
  | x :: l, h, hy, hq, hp => by
    rw [List.filter_cons, List.filter_cons]
    rcases List.mem_cons.mp hy with e | e
    · subst e
      rw [if_neg (by rw [hp]; exact Bool.false_ne_true), if_pos hq]
      exact Nat.lt_succ_of_le (filter_mono h)
    · have ih := filter_lt (l := l) h e hq hp
      by_cases c : p x = true
      · rw [if_pos c, if_pos (h x c)]
        exact Nat.succ_lt_succ ih
      · rw [if_neg c]
        by_cases d : q x = true
        · rw [if_pos d]; exact Nat.lt_succ_of_lt ih
        · rw [if_neg d]; exact ih
theorem above_lt {W : PyData → Int} {GS : List PyData} {c d : PyData} (hd : d ∈ GS) (h : W c < W d) : above W GS d < above W GS c :=
  filter_lt (y := d) (fun x hx => decide_eq_true (by have := of_decide_eq_true hx; omega)) hd (decide_eq_true h) (decide_eq_false (by omega))

section
variable {n : Int} {lk : PyData} {GS ST : List PyData} {W : PyData → Int} {C : PyData → Bool} {nx : PyData → PyData → PyData} {g c a : PyData} {r : List PyData}
variable (F : Fx n lk GS ST W C nx)
include F
abbrev clIn : Fb := (bSeq (bSet 5 (fS (gN 2 m_worth_of) (sCons (fS (gN 2 m_stepped) (sCons (fVar 0) (sCons (fVar 4) sNil))) (sCons (fVar 1) sNil)))) (bIf (fOrT (fBt (f1 uIsN (fVar 3))) (fBt (b2 gGt (fVar 5) (b2 gIx (fVar 3) (fC (.int 0)))))) (bSet 3 (fS gTup (sCons (fVar 5) (sCons (fVar 4) sNil)))) bNx))
theorem Fx.clW (hc : c ∈ GS) {s : PyData} (hs : s ∈ ST) {row : Slot} {x3 x5 : Slot} : (fS (gN 2 m_worth_of) (sCons (fS (gN 2 m_stepped) (sCons (fVar 0) (sCons (fVar 4) sNil))) (sCons (fVar 1) sNil))) [.dat c, .dat lk, row, x3, .dat s, x5] = some (.int (W (nx c s))) :=
  Eq.trans (c2_of (Eq.trans (c2_of (var_at rfl) (var_at rfl)) (F.sp1 c hc s hs)) (var_at rfl)) (F.w1 _ (F.sp3 c hc s hs))
theorem Fx.clFor (hc : c ∈ GS) {row : Slot} : ∀ (l : List PyData) (s : PyData) (x4 x5 : Slot), (∀ t ∈ l, t ∈ ST) → ∃ y4 y5, forD (gNm 4) clIn l [.dat c, .dat lk, row, .dat (.tuple [.int (W (nx c s)), s]), x4, x5] = some (.nx [.dat c, .dat lk, row, .dat (.tuple [.int (W (nx c (amx (fun s => W (nx c s)) s l))), amx (fun s => W (nx c s)) s l]), y4, y5])
  | [], s, x4, x5, _ => ⟨x4, x5, rfl⟩
  | t :: l, s, x4, x5, h => by
    have ht := h t List.mem_cons_self
    have hl : ∀ u ∈ l, u ∈ ST := fun u hu => h u (List.mem_cons_of_mem _ hu)
    have e1 : clIn [.dat c, .dat lk, row, .dat (.tuple [.int (W (nx c s)), s]), .dat t, x5] = some (.nx (if W (nx c s) < W (nx c t) then [.dat c, .dat lk, row, .dat (.tuple [.int (W (nx c t)), t]), .dat t, .dat (.int (W (nx c t)))] else [.dat c, .dat lk, row, .dat (.tuple [.int (W (nx c s)), s]), .dat t, .dat (.int (W (nx c t)))])) := by
      refine Eq.trans (seq_nx (set_of (F.clW hc ht))) ?_
      have e2 : (fOrT (fBt (f1 uIsN (fVar 3))) (fBt (b2 gGt (fVar 5) (b2 gIx (fVar 3) (fC (.int 0)))))) [.dat c, .dat lk, row, .dat (.tuple [.int (W (nx c s)), s]), .dat t, .dat (.int (W (nx c t)))] = some (decide (W (nx c s) < W (nx c t))) := rfl
      by_cases q : W (nx c s) < W (nx c t)
      · rw [if_pos q]
        rw [decide_eq_true q] at e2
        exact Eq.trans (if_t e2) rfl
      · rw [if_neg q]
        rw [decide_eq_false q] at e2
        exact Eq.trans (if_f e2) rfl
    by_cases q : W (nx c s) < W (nx c t)
    · rw [if_pos q] at e1
      obtain ⟨y4, y5, e9⟩ := Fx.clFor hc (row := row) l t (.dat t) (.dat (.int (W (nx c t)))) hl
      refine ⟨y4, y5, ?_⟩
      have ea : amx (fun s => W (nx c s)) s (t :: l) = amx (fun s => W (nx c s)) t l := if_pos q
      rw [ea, ← e9]
      show ((clIn [.dat c, .dat lk, row, .dat (.tuple [.int (W (nx c s)), s]), .dat t, x5]).bind fun r => match r with
        | .nx e2 => forD (gNm 4) clIn l e2
        | .ct e2 => forD (gNm 4) clIn l e2
        | .bk e2 => some (.nx e2)
        | .rt d => some (.rt d)) = _
      rw [e1]
      rfl
    · rw [if_neg q] at e1
      obtain ⟨y4, y5, e9⟩ := Fx.clFor hc (row := row) l s (.dat t) (.dat (.int (W (nx c t)))) hl
      refine ⟨y4, y5, ?_⟩
      have ea : amx (fun s => W (nx c s)) s (t :: l) = amx (fun s => W (nx c s)) s l := if_neg q
      rw [ea, ← e9]
      show ((clIn [.dat c, .dat lk, row, .dat (.tuple [.int (W (nx c s)), s]), .dat t, x5]).bind fun r => match r with
        | .nx e2 => forD (gNm 4) clIn l e2
        | .ct e2 => forD (gNm 4) clIn l e2
        | .bk e2 => some (.nx e2)
        | .rt d => some (.rt d)) = _
      rw [e1]
      rfl
abbrev clTail : Fb := (bSeq (bIf (fBt (b2 gLe (b2 gIx (fVar 3) (fC (.int 0))) (fS (gN 2 m_worth_of) (sCons (fVar 0) (sCons (fVar 1) sNil))))) (bFrz 2 (bRet (fS gTuple (sCons (fVar 2) sNil)))) bNx) (bSeq (bApp 2 (b2 gIx (fVar 3) (fC (.int 1)))) (bSet 0 (fS (gN 2 m_stepped) (sCons (fVar 0) (sCons (b2 gIx (fVar 3) (fC (.int 1))) sNil))))))
abbrev clBody : Fb := (bSeq (bSet 3 (fC .none)) (bSeq (bFor (iSeq asList (fS (gN 1 m_all_steps) (sCons (fS (gN 1 m_size_of) (sCons (fVar 0) sNil)) sNil))) (gNm 4) clIn) clTail))
theorem Fx.clFor0 (est : ST = a :: r) (hc : c ∈ GS) {row x3 x4 x5 : Slot} : ∃ y4 y5, clBody [.dat c, .dat lk, row, x3, x4, x5] = clTail [.dat c, .dat lk, row, .dat (.tuple [.int (W (nx c (topS_ W nx a r c))), topS_ W nx a r c]), y4, y5] := by
  have ha : a ∈ ST := by rw [est]; exact List.mem_cons_self
  obtain ⟨y4, y5, e9⟩ := F.clFor hc (row := row) r a (.dat a) (.dat (.int (W (nx c a)))) (fun t ht => by rw [est]; exact List.mem_cons_of_mem _ ht)
  refine ⟨y4, y5, ?_⟩
  refine Eq.trans (seq_nx (set_of (d := .none) rfl)) ?_
  refine Eq.trans (seq_nx (env' := [.dat c, .dat lk, row, .dat (.tuple [.int (W (nx c (topS_ W nx a r c))), topS_ W nx a r c]), y4, y5]) ?_) rfl
  refine Eq.trans (for_of (il_of (Eq.trans (c1_of (Eq.trans (c1_of (var_at rfl)) (F.sz c hc))) F.st1))) ?_
  refine Eq.trans ?_ e9
  rw [est]
  have e1 : clIn [.dat c, .dat lk, row, .dat .none, .dat a, x5] = some (.nx [.dat c, .dat lk, row, .dat (.tuple [.int (W (nx c a)), a]), .dat a, .dat (.int (W (nx c a)))]) := by
    refine Eq.trans (seq_nx (set_of (F.clW hc ha))) ?_
    exact Eq.trans (if_t (or_t rfl)) rfl
  show ((clIn [.dat c, .dat lk, row, .dat .none, .dat a, x5]).bind fun q => match q with
        | .nx e2 => forD (gNm 4) clIn r e2
        | .ct e2 => forD (gNm 4) clIn r e2
        | .bk e2 => some (.nx e2)
        | .rt d => some (.rt d)) = _
  rw [e1]
  rfl
theorem Fx.top_in (est : ST = a :: r) : topS_ W nx a r c ∈ ST := by
  rw [est]; exact amx_mem _ _ _
theorem Fx.clWh (est : ST = a :: r) : ∀ (K k : Nat) (c : PyData) (w : List PyData) (x3 x4 x5 : Slot), c ∈ GS → above W GS c ≤ k → above W GS c < K → w.length + K ≤ 900 →
    whD clBody K [.dat c, .dat lk, .own w, x3, x4, x5] = some (.rt (.dat (.tuple (turns W nx a r k (c, w)).2)))
  | 0, _, _, _, _, _, _, _, _, h, _ => absurd h (Nat.not_lt_zero _)
  | K + 1, k, c, w, x3, x4, x5, hc, h1, h2, h3 => by
    obtain ⟨y4, y5, e⟩ := F.clFor0 est hc (row := .own w) (x3 := x3) (x4 := x4) (x5 := x5)
    have ht := F.top_in est (c := c)
    have hn := F.sp3 c hc _ ht
    have et : (fBt (b2 gLe (b2 gIx (fVar 3) (fC (.int 0))) (fS (gN 2 m_worth_of) (sCons (fVar 0) (sCons (fVar 1) sNil))))) [.dat c, .dat lk, .own w, .dat (.tuple [.int (W (nx c (topS_ W nx a r c))), topS_ W nx a r c]), y4, y5] = some (decide (W (nx c (topS_ W nx a r c)) ≤ W c)) :=
      bt_of (Eq.trans (b2_of (a := .int (W (nx c (topS_ W nx a r c)))) rfl (Eq.trans (c2_of (var_at rfl) (var_at rfl)) (F.w1 c hc))) rfl)
    show ((clBody [.dat c, .dat lk, .own w, x3, x4, x5]).bind fun q => match q with
      | .nx e => whD clBody K e
      | .ct e => whD clBody K e
      | .bk e => some (.nx e)
      | .rt d => some (.rt d)) = _
    rw [e]
    by_cases q : W c < W (nx c (topS_ W nx a r c))
    · rw [decide_eq_false (by omega)] at et
      have hab := above_lt hn q
      obtain ⟨k', rfl⟩ : ∃ k', k = k' + 1 := ⟨k - 1, by omega⟩
      have e2 : clTail [.dat c, .dat lk, .own w, .dat (.tuple [.int (W (nx c (topS_ W nx a r c))), topS_ W nx a r c]), y4, y5] = some (.nx [.dat (nx c (topS_ W nx a r c)), .dat lk, .own (w ++ [topS_ W nx a r c]), .dat (.tuple [.int (W (nx c (topS_ W nx a r c))), topS_ W nx a r c]), y4, y5]) := by
        refine Eq.trans (seq_nx (skip_of et)) ?_
        refine Eq.trans (seq_nx (env' := [.dat c, .dat lk, .own (w ++ [topS_ W nx a r c]), .dat (.tuple [.int (W (nx c (topS_ W nx a r c))), topS_ W nx a r c]), y4, y5]) ?_) ?_
        · show (if w.length < 1000 then _ else none) = _
          rw [if_pos (by omega)]
          rfl
        · exact Eq.trans (set_of (Eq.trans (c2_of (b := topS_ W nx a r c) (var_at rfl) rfl) (F.sp1 c hc _ ht))) rfl
      rw [e2]
      show whD clBody K _ = _
      rw [Fx.clWh est K k' _ _ _ _ _ hn (by omega) (by omega) (by rw [List.length_append, List.length_singleton]; omega)]
      have : turn1 W nx a r (c, w) = (nx c (topS_ W nx a r c), w ++ [topS_ W nx a r c]) := if_pos q
      show _ = some (Fl.rt (.dat (.tuple (turns W nx a r k' (turn1 W nx a r (c, w))).2)))
      rw [this]
    · rw [decide_eq_true (by omega)] at et
      have e2 : clTail [.dat c, .dat lk, .own w, .dat (.tuple [.int (W (nx c (topS_ W nx a r c))), topS_ W nx a r c]), y4, y5] = some (.rt (.dat (.tuple w))) := seq_rt (Eq.trans (if_t et) rfl)
      rw [e2]
      have : turn1 W nx a r (c, w) = (c, w) := if_neg q
      rw [turns_still _ _ _ _ _ _ this]
      rfl
theorem Fx.climb (est : ST = a :: r) (hg : g ∈ GS) : m_climb [g, lk] = some (.tuple (turns W nx a r GS.length (g, [])).2) := by
  refine mk_rt ?_
  refine Eq.trans (seq_nx (do_of (Eq.trans (c1_of (var_at rfl)) (F.ng g hg)))) ?_
  refine Eq.trans (seq_nx (do_of (Eq.trans (c2_of (Eq.trans (c1_of (var_at rfl)) (F.sz g hg)) (var_at rfl)) F.nl))) ?_
  refine Eq.trans (seq_nx (f := bNew 2) rfl) ?_
  have := above_le W GS g
  have := F.few
  exact F.clWh est 16 GS.length g [] .no .no .no hg (above_le W GS g) (by omega) (by simp)
end
end DL

/-! Pl6: the law over the facts. -/
namespace DL
open PySem PySem.Spec PyProof.Rows L2

theorem lcD_slot {i : Nat} {ft : Ft} {fe : Fe} {env env2 : SE} (h : ∀ d, env.set i (.dat d) = env2.set i (.dat d)) : ∀ (items : List PyData), lcD i ft fe env items = lcD i ft fe env2 items
  | [] => rfl
  | z :: zs => by
    unfold lcD lcOne
    rw [h z, lcD_slot h zs]
theorem gAdd_lst {xs ys : List PyData} (h : xs.length + ys.length ≤ 5000) : gAdd (.list xs) (.list ys) = some (.list (xs ++ ys)) := if_pos h
/-- a filter by places -/
theorem filter_rg {p : PyData → Bool} {q : PyData → Bool} {f : PyData → PyData} {h : PyData → PyData} : ∀ (l : List PyData) (lo : Nat), (∀ (k : Nat) (z : PyData), l[k]? = some z → q (.int (((lo + k : Nat) : Nat) : Int)) = p z ∧ h (.int (((lo + k : Nat) : Nat) : Int)) = f z) →
    (((List.range' lo l.length).map fun (k : Nat) => PyData.int (k : Int)).filter q).map h = (l.filter p).map f
  | [], _, _ => rfl
  | x :: l, lo, H => by
    obtain ⟨h1, h2⟩ := H 0 x rfl
    have ih := filter_rg (p := p) (q := q) (f := f) (h := h) l (lo + 1) fun k z e => by
      have := H (k + 1) z e
      rw [show lo + 1 + k = lo + (k + 1) from by omega]
      exact this
    rw [List.length_cons, List.range'_succ, List.map_cons, List.filter_cons, List.filter_cons]
    rw [Nat.add_zero] at h1 h2
    rw [h1]
    cases p x with
    | true => rw [if_pos rfl, if_pos rfl, List.map_cons, List.map_cons, h2, ih]
    | false => rw [if_neg Bool.false_ne_true, if_neg Bool.false_ne_true, ih]
theorem rgD_range' (k : Nat) : rgD 0 k = (List.range' 0 k).map fun (j : Nat) => PyData.int (j : Int) := by
  unfold rgD
  rw [List.range_eq_range']
  refine List.map_congr_left fun a _ => ?_
  rw [Int.zero_add]

theorem ask_of {fe : Fe} {f : Fb} {env : SE} (h : fe env = some (.bool true)) : bIf (fNotT (fTru fe)) f bNx env = some (.nx env) := skip_of (by unfold fNotT fTru; rw [h]; rfl)
theorem asg_of {fe : Fe} {gt : PyData → SE → Option SE} {env e : SE} {d : PyData} (h : fe env = some d) (h2 : gt d env = some e) : bAsg fe gt env = some (.nx e) := by unfold bAsg; rw [h]; show ((gt d env).bind fun e => some (Fl.nx e)) = _; rw [h2]; rfl
abbrev lwDue1 : Fe := (fAnd (f1 (uIs PyData.isTuple) (fVar 5)) (fAnd (b2 gEq (fS gLen (sCons (fVar 5) sNil)) (fC (.int 2))) (fAnd (f1 (uIs PyData.isTuple) (b2 gIx (fVar 5) (fC (.int 1)))) (b2 gIn (b2 gIx (fVar 5) (fC (.int 1))) (fVar 8)))))
abbrev lwDue2 : Fe := (fAnd (fVar 13) (fAnd (b2 gEq (b2 gIx (fVar 5) (fC (.int 0))) (fVar 11)) (b2 gEq (b2 gIx (fVar 3) (b2 gIndex (fVar 8) (b2 gIx (fVar 5) (fC (.int 1))))) (fVar 11))))
abbrev lwTest : Fb := (bIf (fNotT (fTru (fS (gN 2 (m__law_alike 6)) (sCons (fS (gN 3 m_shows_best_grouping) (sCons (fVar 2) (sCons (fVar 7) (sCons (fVar 5) sNil)))) (sCons (fVar 13) sNil))))) (bRet (fC (.bool false))) bNx)
theorem due2_f {env : SE} (h : env[13]? = some (.dat (.bool false))) : lwDue2 env = some (.bool false) := va_f (var_at h)
/-- the law's slots while values are asked -/
abbrev EV (n : Int) (lk : PyData) (GS : List PyData) (sm : PyData) (g m mx found vals : PyData) (x5 x13 : Slot) : SE :=
  [.no, .no, .dat (.int n), .dat sm, .dat vals, x5, .no, .dat lk, .dat (.list GS), .dat g, .dat m, .dat mx, .dat found, x13, .no, .no, .no, .no, .no, .no, .no]
section
variable {n : Int} {lk : PyData} {GS ST : List PyData} {W : PyData → Int} {C : PyData → Bool} {nx : PyData → PyData → PyData} {g c a b : PyData} {r : List PyData}
variable (F : Fx n lk GS ST W C nx)
include F
abbrev smD (W : PyData → Int) (GS : List PyData) : PyData := .list (GS.map fun g => .int (W g))
theorem Fx.isT (hg : g ∈ GS) : g.isTuple = true := by rw [F.tup g hg]; rfl
theorem Fx.dp2 (hg : g ∈ GS) : dep g = true := decide_eq_true (by have := F.dp g hg; omega)
/-- the sum at the place of a grouping -/
theorem Fx.at_index (hg : g ∈ GS) : ∃ k : Nat, gIndex (.list GS) g = some (.int (k : Int)) ∧ gIx (smD W GS) (.int (k : Int)) = some (.int (W g)) := by
  obtain ⟨k, k1, k2⟩ := idx_mem F.pw hg (F.rf g hg)
  refine ⟨k, ?_, gIx_lst ?_⟩
  · show (if (SeqAt.shaped (.list GS) && SeqAt.shaped g) = true then (idxD g GS).bind fun j => some (PyData.int (j : Nat)) else none) = _
    rw [F.shs, F.sh g hg, k1]
    rfl
  · rw [List.getElem?_map, k2]
    rfl
/-- one value is asked -/
def ValOk (n : Int) (lk : PyData) (GS : List PyData) (W : PyData → Int) (b z : PyData) : Prop := ∃ x y : Bool, m_shows_best_grouping [.int n, lk, z] = some (.bool y) ∧ ∀ g m mx found vals x13, mx = .int (W b) →
  lwDue1 (EV n lk GS (smD W GS) g m mx found vals (.dat z) x13) = some (.bool x) ∧ lwDue2 (EV n lk GS (smD W GS) g m mx found vals (.dat z) (.dat (.bool x))) = some (.bool y)
theorem Fx.val4 (hb : m_best_of [.int n, lk] = some (prD W b)) (hg : g ∈ GS) : ValOk n lk GS W b (.tuple [.int (W b), g]) := by
  refine ⟨true, W g == W b, F.sh4 hb hg, fun g' m mx found vals x13 em => ⟨?_, ?_⟩⟩
  · refine Eq.trans (va_t rfl) (Eq.trans (va_t rfl) ?_)
    refine Eq.trans (va_t ?_) ?_
    · refine Eq.trans (f1_of (Eq.trans (b2_of (b := .int 1) (var_at rfl) rfl) rfl)) ?_
      show some (PyData.bool g.isTuple) = _
      rw [F.isT hg]
    · refine Eq.trans (b2_of (Eq.trans (b2_of (b := .int 1) (var_at rfl) rfl) rfl) (var_at rfl)) ?_
      show gIn g (.list GS) = _
      rw [gIn_of (F.dp2 hg), inD_mem hg (F.rf g hg)]
  · subst em
    refine Eq.trans (va_t rfl) ?_
    refine Eq.trans (va_t ?_) ?_
    · refine Eq.trans (b2_of (Eq.trans (b2_of (b := .int 0) (var_at rfl) rfl) rfl) (var_at rfl)) ?_
      show gEq (.int (W b)) (.int (W b)) = _
      rw [gEq_of rfl, eqv_int, beq_self_eq_true]
    · obtain ⟨k, k1, k2⟩ := F.at_index hg
      refine Eq.trans (b2_of (Eq.trans (b2_of (var_at rfl) (Eq.trans (b2_of (b := g) (var_at rfl) (Eq.trans (b2_of (b := .int 1) (var_at rfl) rfl) rfl)) k1)) k2) (var_at rfl)) ?_
      rw [gEq_of rfl, eqv_int]
/-- no tuple -/
theorem Fx.val1 (hb : m_best_of [.int n, lk] = some (prD W b)) {z : PyData} (hz : z.isTuple = false) : ValOk n lk GS W b z := by
  refine ⟨false, false, F.sh1 hb hz, fun g' m mx found vals x13 em => ⟨va_f ?_, due2_f rfl⟩⟩
  refine Eq.trans (f1_of (var_at rfl)) ?_
  show some (PyData.bool z.isTuple) = _
  rw [hz]
theorem Fx.val2 (hb : m_best_of [.int n, lk] = some (prD W b)) (hg : g ∈ GS) : ValOk n lk GS W b (.tuple [.int (W b + 1), g]) := by
  refine ⟨true, false, F.sh2 hb, fun g' m mx found vals x13 em => ⟨?_, ?_⟩⟩
  · refine Eq.trans (va_t rfl) (Eq.trans (va_t rfl) ?_)
    refine Eq.trans (va_t ?_) ?_
    · refine Eq.trans (f1_of (Eq.trans (b2_of (b := .int 1) (var_at rfl) rfl) rfl)) ?_
      show some (PyData.bool g.isTuple) = _
      rw [F.isT hg]
    · refine Eq.trans (b2_of (Eq.trans (b2_of (b := .int 1) (var_at rfl) rfl) rfl) (var_at rfl)) ?_
      show gIn g (.list GS) = _
      rw [gIn_of (F.dp2 hg), inD_mem hg (F.rf g hg)]
  · subst em
    refine Eq.trans (va_t rfl) (va_f ?_)
    refine Eq.trans (b2_of (Eq.trans (b2_of (b := .int 0) (var_at rfl) rfl) rfl) (var_at rfl)) ?_
    show gEq (.int (W b + 1)) (.int (W b)) = _
    rw [gEq_of rfl, eqv_int]
    have : (W b + 1 == W b) = false := by simp; omega
    rw [this]
/-- the second no tuple -/
theorem Fx.val3 (hb : m_best_of [.int n, lk] = some (prD W b)) {xs : List PyData} : ValOk n lk GS W b (.tuple [.int (W b), .list xs]) :=
  ⟨false, false, F.sh3 (x := .list xs) (y := false) (s := 0) hb rfl (fun z => nomatch z), fun g' m mx found vals x13 em => ⟨Eq.trans (va_t rfl) (Eq.trans (va_t rfl) (va_f rfl)), due2_f rfl⟩⟩
/-- the second a tuple that is no grouping -/
theorem Fx.val5 (hb : m_best_of [.int n, lk] = some (prD W b)) {xs : List PyData} (hd : dep (.tuple xs) = true) (hin : inD (.tuple xs) GS = false) {y : Bool} {s : Int} (h1 : m_is_grouping [.tuple xs] = some (.bool y)) (h2 : y = true → m_size_of [.tuple xs] = some (.int s) ∧ (s == n) = false) : ValOk n lk GS W b (.tuple [.int (W b), .tuple xs]) := by
  refine ⟨false, false, F.sh3 hb h1 h2, fun g' m mx found vals x13 em => ⟨Eq.trans (va_t rfl) (Eq.trans (va_t rfl) (Eq.trans (va_t rfl) ?_)), due2_f rfl⟩⟩
  refine Eq.trans (b2_of (Eq.trans (b2_of (b := .int 1) (var_at rfl) rfl) rfl) (var_at rfl)) ?_
  show gIn (.tuple xs) (.list GS) = _
  rw [gIn_of hd, hin]
/-- all values are asked -/
theorem Fx.values {sm g m mx found vals : PyData} {x5 x13 : Slot} {items : List PyData} (hs : sm = smD W GS) (hm : mx = .int (W b)) (hv : ∀ z ∈ items, ValOk n lk GS W b z) :
    ∃ y5 y13, forD (gNm 5) (bSeq (bSet 13 lwDue1) (bSeq (bSet 13 lwDue2) lwTest)) items (EV n lk GS sm g m mx found vals x5 x13) = some (.nx (EV n lk GS sm g m mx found vals y5 y13)) := by
  subst hs
  have key := forD_inv (gt := gNm 5) (bb := (bSeq (bSet 13 lwDue1) (bSeq (bSet 13 lwDue2) lwTest))) (items := items) (env := EV n lk GS (smD W GS) g m mx found vals x5 x13) (fun _ e => ∃ y5 y13, e = EV n lk GS (smD W GS) g m mx found vals y5 y13) ⟨x5, x13, rfl⟩ ?_
  · obtain ⟨e, e1, y5, y13, e2⟩ := key
    exact ⟨y5, y13, by rw [e1, e2]⟩
  · rintro k z e hz ⟨y5, y13, rfl⟩
    obtain ⟨x, y, v1, v2⟩ := hv z (List.mem_of_getElem? hz)
    obtain ⟨v3, v4⟩ := v2 g m mx found vals y13 hm
    refine ⟨EV n lk GS (smD W GS) g m mx found vals (.dat z) y13, EV n lk GS (smD W GS) g m mx found vals (.dat z) (.dat (.bool y)), rfl, ?_, .dat z, .dat (.bool y), rfl⟩
    refine Eq.trans (seq_nx (env' := EV n lk GS (smD W GS) g m mx found vals (.dat z) (.dat (.bool x))) (set_of v3)) ?_
    refine Eq.trans (seq_nx (env' := EV n lk GS (smD W GS) g m mx found vals (.dat z) (.dat (.bool y))) (set_of v4)) ?_
    refine ask_of (Eq.trans (c2_of (Eq.trans (c3_of (var_at rfl) (var_at rfl) (var_at rfl)) v1) (var_at rfl)) ?_)
    rw [alike_bool, beq_self_eq_true]
end
end DL

/-! Pl7: the law over the facts. -/
namespace DL
open PySem PySem.Spec PyProof.Rows L2

theorem shI (l : List Int) : SeqAt.shaped (.list (l.map PyData.int)) = true := PySem.W.shaped_ints l
section
variable {n : Int} {lk : PyData} {GS ST : List PyData} {W : PyData → Int} {C : PyData → Bool} {nx : PyData → PyData → PyData} {g c a b : PyData} {r : List PyData}
variable (F : Fx n lk GS ST W C nx)
include F
theorem Fx.maxs (hb : b ∈ GS) (hm : ∀ h ∈ GS, W h ≤ W b) : gMax [smD W GS] = some (.int (W b)) := by
  obtain ⟨x, r, er⟩ : ∃ x r, GS = x :: r := by
    cases GS with
    | nil => exact absurd rfl F.ne
    | cons x r => exact ⟨x, r, rfl⟩
  have e1 := gMax_amx W r x
  have h1 := amx_ge W r x b (by rw [← er]; exact hb)
  have h2 := hm (amx W x r) (by rw [er]; exact amx_mem W r x)
  have e2 : W (amx W x r) = W b := by omega
  rw [e2] at e1
  rw [er]
  exact e1
theorem Fx.sums {env : SE} (h8 : env[8]? = some (.dat (.list GS))) (h7 : env[7]? = some (.dat lk)) (hl : 18 < env.length) : (fLc 18 (iSeq asList (fVar 8)) tYesD (fS (gN 2 m__law_worth) (sCons (fVar 18) (sCons (fVar 7) sNil)))) env = some (smD W GS) := by
  refine lc_of (il_of (var_at h8)) (lcD_map fun d hd => Eq.trans (c2_of (var_at ?_) (var_at ?_)) (F.w2 d hd)) (by rw [List.length_map]; have := F.few; omega)
  · rw [List.getElem?_set_self (by rw [List.length_set]; exact hl)]
  · rw [List.getElem?_set_ne (by decide), List.getElem?_set_ne (by decide)]
    exact h7
theorem Fx.lots_law {sm g m mx found : PyData} {k : Int} (hs : sm = smD W GS) (hm : m = .int k) : (fLc 20 (iSeq asRg (fS gLen (sCons (fVar 8) sNil))) (fBt (b2 gEq (fS gLen (sCons (b2 gIx (fVar 8) (fVar 20)) sNil)) (fVar 10))) (b2 gIx (fVar 3) (fVar 20))) ([.no, .no, .dat (.int n), .dat sm, .no, .no, .no, .dat lk, .dat (.list GS), .dat g, .dat m, .dat mx, .dat found, .no, .no, .no, .no, .no, .no, .no, .no] : SE) = some (.list (((GS.filter fun g => decide (((enlist g).length : Int) = k)).map W).map .int)) := by
  subst hs hm
  have hfew := F.few
  have e0 : (iSeq asRg (fS gLen (sCons (fVar 8) sNil))) ([.no, .no, .dat (.int n), .dat (smD W GS), .no, .no, .no, .dat lk, .dat (.list GS), .dat g, .dat (.int k), .dat mx, .dat found, .no, .no, .no, .no, .no, .no, .no, .no] : SE) = some (rgD 0 GS.length) := by
    unfold iSeq
    rw [Eq.trans (s1_of (var_at rfl)) (rfl : gLen [.list GS] = some (.int GS.length))]
    exact asRg_nat (by omega)
  have el : ((GS.filter fun g => decide (((enlist g).length : Int) = k)).map W).map PyData.int = (GS.filter fun g => decide (((enlist g).length : Int) = k)).map fun g => .int (W g) := by rw [List.map_map]; rfl
  rw [el]
  refine lc_of e0 ?_ (by rw [List.length_map]; have := List.length_filter_le (fun g => decide (((enlist g).length : Int) = k)) GS; omega)
  have key := filter_rg (p := fun g => decide (((enlist g).length : Int) = k)) (f := fun g => .int (W g)) (q := fun d => match gIx (.list GS) d with
    | some g => decide (((enlist g).length : Int) = k)
    | none => false) (h := fun d => match gIx (.list GS) d with
    | some g => .int (W g)
    | none => .none) GS 0 (fun j z hz => by
      rw [Nat.zero_add]
      show (match gIx (.list GS) (.int (j : Int)) with
        | some g => decide (((enlist g).length : Int) = k)
        | none => false) = _ ∧ (match gIx (.list GS) (.int (j : Int)) with
        | some g => PyData.int (W g)
        | none => .none) = _
      rw [gIx_lst hz]
      exact ⟨rfl, rfl⟩)
  rw [← rgD_range'] at key
  rw [← key]
  refine lcD_filter fun d hd => ?_
  obtain ⟨i, hi, rfl⟩ := rgD_mem hd
  obtain ⟨x, hx⟩ : ∃ x, GS[i]? = some x := ⟨GS[i], List.getElem?_eq_getElem hi⟩
  have hxm : x ∈ GS := List.mem_of_getElem? hx
  have e3 := gIx_lst hx
  refine ⟨bt_of ?_, fun _ => ?_⟩
  · show _ = some (PyData.bool (match gIx (.list GS) (.int (i : Int)) with
      | some g => decide (((enlist g).length : Int) = k)
      | none => false))
    rw [e3]
    refine Eq.trans (b2_of (Eq.trans (s1_of (Eq.trans (b2_of (var_at rfl) (var_at rfl)) e3)) (by rw [F.tup x hxm]; rfl)) (var_at rfl)) ?_
    rw [gEq_of rfl, eqv_int]
    congr 2
  · show _ = some (match gIx (.list GS) (.int (i : Int)) with
      | some g => PyData.int (W g)
      | none => .none)
    rw [e3]
    refine Eq.trans (b2_of (var_at rfl) (var_at rfl)) (gIx_lst ?_)
    rw [List.getElem?_map, hx]
    rfl
abbrev lwTurn : Fb := (bSeq (bSet 17 (fLc 19 (iSeq asList (fVar 14)) tYesD (fS (gN 2 m__law_worth) (sCons (fS (gN 2 m__law_step) (sCons (fVar 15) (sCons (fVar 19) sNil))) (sCons (fVar 7) sNil))))) (bIf (fBt (b2 gGt (fS gMax (sCons (fVar 17) sNil)) (fS (gN 2 m__law_worth) (sCons (fVar 15) (sCons (fVar 7) sNil))))) (bSeq (bApp 16 (b2 gIx (fVar 14) (b2 gIndex (fVar 17) (fS gMax (sCons (fVar 17) sNil))))) (bSet 15 (fS (gN 2 m__law_step) (sCons (fVar 15) (sCons (fAtO 16 (f1 uNeg (fC (.int 1)))) sNil))))) bNx))
abbrev EC (n : Int) (lk : PyData) (GS ST : List PyData) (sm g m mx found vals here : PyData) (w : List PyData) (x5 x6 x13 x17 : Slot) : SE :=
  [.no, .no, .dat (.int n), .dat sm, .dat vals, x5, x6, .dat lk, .dat (.list GS), .dat g, .dat m, .dat mx, .dat found, x13, .dat (.list ST), .dat here, .own w, x17, .no, .no, .no]
theorem Fx.turn (est : ST = a :: r) {sm g m mx found vals : PyData} {w : List PyData} {x5 x6 x13 x17 : Slot} (hc : c ∈ GS) (hw : w.length < 1000) :
    lwTurn (EC n lk GS ST sm g m mx found vals c w x5 x6 x13 x17) = some (.nx (EC n lk GS ST sm g m mx found vals (turn1 W nx a r (c, w)).1 (turn1 W nx a r (c, w)).2 x5 x6 x13 (.dat (.list (ST.map fun s => .int (W (nx c s))))))) := by
  have hfew := F.sfew
  have e1 : (fLc 19 (iSeq asList (fVar 14)) tYesD (fS (gN 2 m__law_worth) (sCons (fS (gN 2 m__law_step) (sCons (fVar 15) (sCons (fVar 19) sNil))) (sCons (fVar 7) sNil)))) (EC n lk GS ST sm g m mx found vals c w x5 x6 x13 x17) = some (.list (ST.map fun s => .int (W (nx c s)))) := by
    refine lc_of (il_of (var_at rfl)) (lcD_map fun d hd => ?_) (by rw [List.length_map]; omega)
    exact Eq.trans (c2_of (Eq.trans (c2_of (var_at rfl) (var_at rfl)) (F.sp2 c hc d hd)) (var_at rfl)) (F.w2 _ (F.sp3 c hc d hd))
  refine Eq.trans (seq_nx (env' := EC n lk GS ST sm g m mx found vals c w x5 x6 x13 (.dat (.list (ST.map fun s => .int (W (nx c s)))))) (set_of e1)) ?_
  have em : gMax [.list (ST.map fun s => .int (W (nx c s)))] = some (.int (W (nx c (topS_ W nx a r c)))) := by
    rw [est]
    exact gMax_amx (fun s => W (nx c s)) r a
  have et : (fBt (b2 gGt (fS gMax (sCons (fVar 17) sNil)) (fS (gN 2 m__law_worth) (sCons (fVar 15) (sCons (fVar 7) sNil))))) (EC n lk GS ST sm g m mx found vals c w x5 x6 x13 (.dat (.list (ST.map fun s => .int (W (nx c s)))))) = some (decide (W c < W (nx c (topS_ W nx a r c)))) :=
    bt_of (Eq.trans (b2_of (Eq.trans (s1_of (var_at rfl)) em) (Eq.trans (c2_of (var_at rfl) (var_at rfl)) (F.w2 c hc))) rfl)
  by_cases q : W c < W (nx c (topS_ W nx a r c))
  · rw [decide_eq_true q] at et
    have e9 : turn1 W nx a r (c, w) = (nx c (topS_ W nx a r c), w ++ [topS_ W nx a r c]) := if_pos q
    rw [e9]
    refine Eq.trans (if_t et) ?_
    obtain ⟨k, k1, k2⟩ := amx_idx (fun s => W (nx c s)) r a
    have ei : gIndex (.list (ST.map fun s => .int (W (nx c s)))) (.int (W (nx c (topS_ W nx a r c)))) = some (.int (k : Int)) := by
      show (if (SeqAt.shaped (.list (ST.map fun s => .int (W (nx c s)))) && SeqAt.shaped (.int (W (nx c (topS_ W nx a r c))))) = true then (idxD (.int (W (nx c (topS_ W nx a r c)))) (ST.map fun s => .int (W (nx c s)))).bind fun j => some (PyData.int (j : Nat)) else none) = _
      have hsh := shI (ST.map fun s => W (nx c s))
      rw [List.map_map] at hsh
      rw [if_pos (by rw [show SeqAt.shaped (.list (ST.map fun s => .int (W (nx c s)))) = true from hsh]; rfl), est]
      rw [show idxD (.int (W (nx c (topS_ W nx a r c)))) ((a :: r).map fun s => .int (W (nx c s))) = some k from k1]
      rfl
    have ev : (b2 gIx (fVar 14) (b2 gIndex (fVar 17) (fS gMax (sCons (fVar 17) sNil)))) (EC n lk GS ST sm g m mx found vals c w x5 x6 x13 (.dat (.list (ST.map fun s => .int (W (nx c s)))))) = some (topS_ W nx a r c) := by
      refine Eq.trans (b2_of (var_at rfl) (Eq.trans (b2_of (var_at rfl) (Eq.trans (s1_of (var_at rfl)) em)) ei)) (gIx_lst ?_)
      rw [est]
      exact k2
    refine Eq.trans (seq_nx (env' := EC n lk GS ST sm g m mx found vals c (w ++ [topS_ W nx a r c]) x5 x6 x13 (.dat (.list (ST.map fun s => .int (W (nx c s)))))) ?_) ?_
    · show ((b2 gIx (fVar 14) (b2 gIndex (fVar 17) (fS gMax (sCons (fVar 17) sNil)))) (EC n lk GS ST sm g m mx found vals c w x5 x6 x13 (.dat (.list (ST.map fun s => .int (W (nx c s)))))) |>.bind fun d => if w.length < 1000 then some (Fl.nx ((EC n lk GS ST sm g m mx found vals c w x5 x6 x13 (.dat (.list (ST.map fun s => .int (W (nx c s)))))).set 16 (.own (w ++ [d])))) else none) = _
      rw [ev]
      show (if w.length < 1000 then _ else none) = _
      rw [if_pos hw]
      rfl
    · refine set_of (Eq.trans (c2_of (var_at rfl) ?_) (F.sp2 c hc _ (F.top_in est)))
      show L2.atI (w ++ [topS_ W nx a r c]) (-1) = _
      exact L2.atI_last w _
  · rw [decide_eq_false q] at et
    have e9 : turn1 W nx a r (c, w) = (c, w) := if_neg q
    rw [e9]
    exact skip_of et
theorem Fx.turn_in (est : ST = a :: r) {p : PyData × List PyData} (h : p.1 ∈ GS) (hw : ∀ s ∈ p.2, s ∈ ST) : (turn1 W nx a r p).1 ∈ GS ∧ (∀ s ∈ (turn1 W nx a r p).2, s ∈ ST) ∧ (turn1 W nx a r p).2.length ≤ p.2.length + 1 := by
  unfold turn1
  by_cases q : W p.1 < W (nx p.1 (topS_ W nx a r p.1))
  · rw [if_pos q]
    refine ⟨F.sp3 _ h _ (F.top_in est), fun s hs => ?_, by rw [List.length_append]; exact Nat.le_refl _⟩
    rcases List.mem_append.mp hs with e | e
    · exact hw s e
    · rw [List.mem_singleton.mp e]; exact F.top_in est
  · rw [if_neg q]
    exact ⟨h, hw, Nat.le_succ _⟩
theorem Fx.climbs (est : ST = a :: r) {sm g m mx found vals : PyData} {x5 x6 x13 x17 : Slot} (hg : g ∈ GS) :
    ∃ here w y6 y17, forD (gNm 6) lwTurn (rgD 0 GS.length) (EC n lk GS ST sm g m mx found vals g [] x5 x6 x13 x17) = some (.nx (EC n lk GS ST sm g m mx found vals here w x5 y6 x13 y17)) ∧ w = (turns W nx a r GS.length (g, [])).2 ∧ (∀ s ∈ w, s ∈ ST) ∧ w.length ≤ 15 := by
  have hfew := F.few
  have key := forD_inv (gt := gNm 6) (bb := lwTurn) (items := rgD 0 GS.length) (env := EC n lk GS ST sm g m mx found vals g [] x5 x6 x13 x17)
    (fun k e => ∃ here w y6 y17, e = EC n lk GS ST sm g m mx found vals here w x5 y6 x13 y17 ∧ (here, w) = turns W nx a r k (g, []) ∧ here ∈ GS ∧ (∀ s ∈ w, s ∈ ST) ∧ w.length ≤ k)
    ⟨g, [], x6, x17, rfl, rfl, hg, (fun s hs => nomatch (show s ∈ ([] : List PyData) from hs)), Nat.le_refl _⟩ ?_
  · obtain ⟨e, e1, here, w, y6, y17, e2, e3, e4, e5, e6⟩ := key
    have hlen : (rgD 0 GS.length).length = GS.length := by unfold rgD; rw [List.length_map, List.length_range]
    rw [hlen] at e3 e6
    exact ⟨here, w, y6, y17, by rw [e1, e2], by rw [← e3], e5, by omega⟩
  · rintro k z e hz ⟨here, w, y6, y17, rfl, e3, e4, e5, e6⟩
    have hk : k < (rgD 0 GS.length).length := (List.getElem?_eq_some_iff.mp hz).1
    have hlen : (rgD 0 GS.length).length = GS.length := by unfold rgD; rw [List.length_map, List.length_range]
    obtain ⟨t1, t2, t3⟩ := F.turn_in est (p := (here, w)) e4 e5
    refine ⟨EC n lk GS ST sm g m mx found vals here w x5 (.dat z) x13 y17, _, rfl, F.turn est e4 (by omega), (turn1 W nx a r (here, w)).1, (turn1 W nx a r (here, w)).2, .dat z, _, rfl, ?_, t1, t2, Nat.le_trans t3 (by show w.length + 1 ≤ k + 1; omega)⟩
    rw [turns_succ, ← e3]
end
end DL

/-! Pl8: the law holds over the facts. -/
namespace DL
open PySem PySem.Spec PyProof.Rows L2

section
variable {n : Int} {lk : PyData} {GS ST : List PyData} {W : PyData → Int} {C : PyData → Bool} {nx : PyData → PyData → PyData} {g b : PyData}
theorem Fx.law (F : Fx n lk GS ST W C nx) (hg : g ∈ GS) (m : Int) (m1 : 1 ≤ m) (m2 : m ≤ n) : b_law ([.no, .no, .dat (.int n), .no, .no, .no, .no, .dat lk, .dat (.list GS), .dat g, .dat (.int m), .no, .no, .no, .no, .no, .no, .no, .no, .no, .no] : SE) = some (.rt (.dat (.bool true))) := by
  obtain ⟨a, r, est⟩ : ∃ a r, ST = a :: r := by
    cases ST with
    | nil => exact absurd rfl F.sne
    | cons x r => exact ⟨x, r, rfl⟩
  have hfew := F.few
  obtain ⟨b, hb, hbo, hbm⟩ := F.best_of
  -- worth
  refine Eq.trans (seq_nx (ask_of (Eq.trans (c2_of (Eq.trans (c2_of (var_at rfl) (var_at rfl)) (F.worth hg)) (Eq.trans (c2_of (var_at rfl) (var_at rfl)) (F.w2 g hg))) (by rw [alike_int, beq_self_eq_true])))) ?_
  -- sums
  refine Eq.trans (seq_nx (set_of (F.sums rfl rfl (by show 18 < 21; decide)))) ?_
  -- best
  have e3 : bAsg (fS gTup (sCons (fS gMax (sCons (fVar 3) sNil)) (sCons (fS (gN 2 m_best_grouping) (sCons (fVar 2) (sCons (fVar 7) sNil))) sNil))) (gPr 11 12) ([.no, .no, .dat (.int n), .dat (smD W GS), .no, .no, .no, .dat lk, .dat (.list GS), .dat g, .dat (.int m), .no, .no, .no, .no, .no, .no, .no, .no, .no, .no] : SE) = some (.nx ([.no, .no, .dat (.int n), .dat (smD W GS), .no, .no, .no, .dat lk, .dat (.list GS), .dat g, .dat (.int m), .dat (.int (W b)), .dat (prD W b), .no, .no, .no, .no, .no, .no, .no, .no] : SE)) :=
    asg_of (d := .tuple [.int (W b), prD W b]) (Eq.trans (s2_of (Eq.trans (s1_of (var_at rfl)) (F.maxs hb hbm)) (Eq.trans (c2_of (var_at rfl) (var_at rfl)) (F.best_grouping hbo))) rfl) rfl
  refine Eq.trans (seq_nx e3) ?_
  -- the best is right
  obtain ⟨k, k1, k2⟩ := F.at_index hb
  refine Eq.trans (seq_nx (skip_of ?_)) ?_
  · refine Eq.trans (or_f rfl) (Eq.trans (or_f rfl) ?_)
    refine Eq.trans (or_f ?_) ?_
    · refine bt_of (Eq.trans (b2_of (a := .int (W b)) rfl (var_at rfl)) ?_)
      rw [gNe_of rfl, eqv_int, beq_self_eq_true]
      rfl
    · refine Eq.trans (or_f ?_) ?_
      · refine bt_of (Eq.trans (b2_of (a := b) rfl (var_at rfl)) ?_)
        rw [gNotIn_of (F.dp2 hb), inD_mem hb (F.rf b hb)]
        rfl
      · refine bt_of (Eq.trans (b2_of (Eq.trans (b2_of (var_at rfl) (Eq.trans (b2_of (b := b) (var_at rfl) rfl) k1)) k2) (var_at rfl)) ?_)
        rw [gNe_of rfl, eqv_int, beq_self_eq_true]
        rfl
  -- so many lots
  obtain ⟨x, x1, x2⟩ := F.lots_ok m1 m2
  refine Eq.trans (seq_nx (ask_of (Eq.trans (c2_of (Eq.trans (c3_of (var_at rfl) (var_at rfl) (var_at rfl)) x2) (Eq.trans (s1_of (F.lots_law rfl rfl)) x1)) (by rw [alike_int, beq_self_eq_true])))) ?_
  -- values
  have e6 : bSet 4 (fS gLst (sCons (fVar 12) (sCons (fS gList (sCons (fVar 12) sNil)) (sCons (fS gTup (sCons (fVar 11) (sCons (fS gList (sCons (b2 gIx (fVar 12) (fC (.int 1))) sNil)) sNil))) (sCons (fS gTup (sCons (b2 gAdd (fVar 11) (fC (.int 1))) (sCons (b2 gIx (fVar 12) (fC (.int 1))) sNil))) (sCons (fS gTup (sCons (fVar 11) (sCons (fS gTup sNil) sNil))) (sCons (fC .none) (sCons (fC (.int 3)) (sCons (fS gTup (sCons (fVar 11) (sCons (fS gTup (sCons (fS gTup (sCons (fC (.int 0)) (sCons (fVar 2) sNil))) sNil)) sNil))) sNil))))))))) ([.no, .no, .dat (.int n), .dat (smD W GS), .no, .no, .no, .dat lk, .dat (.list GS), .dat g, .dat (.int m), .dat (.int (W b)), .dat (prD W b), .no, .no, .no, .no, .no, .no, .no, .no] : SE) = some (.nx (EV n lk GS (smD W GS) g (.int m) (.int (W b)) (prD W b) (.list [.tuple [.int (W b), b], .list [.int (W b), b], .tuple [.int (W b), .list (enlist b)], .tuple [.int (W b + 1), b], .tuple [.int (W b), .tuple []], .none, .int 3, .tuple [.int (W b), .tuple [.tuple [.int 0, .int n]]]]) .no .no)) := by
    refine Eq.trans (set_of (d := .list [.tuple [.int (W b), b], .list [.int (W b), b], .tuple [.int (W b), .list (enlist b)], .tuple [.int (W b + 1), b], .tuple [.int (W b), .tuple []], .none, .int 3, .tuple [.int (W b), .tuple [.tuple [.int 0, .int n]]]]) ?_) rfl
    rw [F.tup b hb]
    rfl
  refine Eq.trans (seq_nx e6) ?_
  obtain ⟨bd, sd, b1, b2', b3⟩ := F.bad3
  obtain ⟨y5, y13, e7⟩ := F.values (sm := smD W GS) (g := g) (m := .int m) (mx := .int (W b)) (found := prD W b) (vals := .list [.tuple [.int (W b), b], .list [.int (W b), b], .tuple [.int (W b), .list (enlist b)], .tuple [.int (W b + 1), b], .tuple [.int (W b), .tuple []], .none, .int 3, .tuple [.int (W b), .tuple [.tuple [.int 0, .int n]]]]) (x5 := .no) (x13 := .no)
    (items := [.tuple [.int (W b), b], .list [.int (W b), b], .tuple [.int (W b), .list (enlist b)], .tuple [.int (W b + 1), b], .tuple [.int (W b), .tuple []], .none, .int 3, .tuple [.int (W b), .tuple [.tuple [.int 0, .int n]]]] ++ GS.map fun h => .tuple [.int (W b), h]) rfl rfl (fun z hz => by
      rcases List.mem_append.mp hz with h | h
      · simp only [List.mem_cons, List.not_mem_nil, or_false] at h
        rcases h with rfl | rfl | rfl | rfl | rfl | rfl | rfl | rfl
        · exact F.val4 hbo hb
        · exact F.val1 hbo rfl
        · exact F.val3 hbo
        · exact F.val2 hbo hb
        · exact F.val5 (y := false) (s := 0) hbo rfl F.bad1 rfl fun z => nomatch z
        · exact F.val1 hbo rfl
        · exact F.val1 hbo rfl
        · exact F.val5 (y := bd) (s := sd) hbo rfl F.bad2 b1 fun z => ⟨b2', b3 z⟩
      · obtain ⟨h, h1, rfl⟩ := List.mem_map.mp h
        exact F.val4 hbo h1)
  refine Eq.trans (seq_nx (Eq.trans (for_of (il_of (Eq.trans (b2_of (var_at rfl) (lc_of (il_of (var_at rfl)) (lcD_map (h := fun h => .tuple [.int (W b), h]) fun d hd => Eq.trans (s2_of (var_at rfl) (var_at rfl)) rfl) (by rw [List.length_map]; omega))) (gAdd_lst (by rw [List.length_map]; show 8 + GS.length ≤ 5000; omega))))) e7)) ?_
  -- calm
  refine Eq.trans (seq_nx (ask_of (Eq.trans (c2_of (Eq.trans (c2_of (var_at rfl) (var_at rfl)) (F.is_calm hg)) (Eq.trans (c2_of (var_at rfl) (var_at rfl)) (F.c2 g hg))) (by rw [alike_bool, beq_self_eq_true])))) ?_
  -- the calm ones
  have hfl := List.length_filter_le C GS
  have e9 : (fS gTuple (sCons (fLc 18 (iSeq asList (fVar 8)) (fTru (fS (gN 2 m__law_calm) (sCons (fVar 18) (sCons (fVar 7) sNil)))) (fVar 18)) sNil)) (EV n lk GS (smD W GS) g (.int m) (.int (W b)) (prD W b) (.list [.tuple [.int (W b), b], .list [.int (W b), b], .tuple [.int (W b), .list (enlist b)], .tuple [.int (W b + 1), b], .tuple [.int (W b), .tuple []], .none, .int 3, .tuple [.int (W b), .tuple [.tuple [.int 0, .int n]]]]) y5 y13) = some (.tuple (GS.filter C)) := by
    refine Eq.trans (s1_of (lc_of (out := GS.filter C) (il_of (var_at rfl)) ?_ (by omega))) rfl
    refine Eq.trans (lcD_filter (p := C) (h := id) fun d hd => ⟨tru_of' (Eq.trans (c2_of (var_at rfl) (var_at rfl)) (F.c2 d hd)) rfl, fun _ => var_at rfl⟩) ?_
    rw [List.map_id]
  refine Eq.trans (seq_nx (ask_of (Eq.trans (c2_of (Eq.trans (c2_of (var_at rfl) (var_at rfl)) F.calm_ones) e9) (alike_tup (by omega) fun z hz => F.ag z (List.mem_filter.mp hz).1)))) ?_
  -- climbing
  have e10 : bTri 14 15 16 (fS (gN 1 m__law_steps) (sCons (fVar 2) sNil)) (fVar 9) (EV n lk GS (smD W GS) g (.int m) (.int (W b)) (prD W b) (.list [.tuple [.int (W b), b], .list [.int (W b), b], .tuple [.int (W b), .list (enlist b)], .tuple [.int (W b + 1), b], .tuple [.int (W b), .tuple []], .none, .int 3, .tuple [.int (W b), .tuple [.tuple [.int 0, .int n]]]]) y5 y13) = some (.nx (EC n lk GS ST (smD W GS) g (.int m) (.int (W b)) (prD W b) (.list [.tuple [.int (W b), b], .list [.int (W b), b], .tuple [.int (W b), .list (enlist b)], .tuple [.int (W b + 1), b], .tuple [.int (W b), .tuple []], .none, .int 3, .tuple [.int (W b), .tuple [.tuple [.int 0, .int n]]]]) g [] y5 .no y13 .no)) := by
    unfold bTri
    rw [Eq.trans (c1_of (var_at rfl)) F.st2]
    rfl
  refine Eq.trans (seq_nx e10) ?_
  obtain ⟨here, w, y6, y17, e11, ew, hw, hwl⟩ := F.climbs est (sm := smD W GS) (g := g) (m := .int m) (mx := .int (W b)) (found := prD W b) (vals := .list [.tuple [.int (W b), b], .list [.int (W b), b], .tuple [.int (W b), .list (enlist b)], .tuple [.int (W b + 1), b], .tuple [.int (W b), .tuple []], .none, .int 3, .tuple [.int (W b), .tuple [.tuple [.int 0, .int n]]]]) (x5 := y5) (x6 := .no) (x13 := y13) (x17 := .no) hg
  have e12 : (iSeq asRg (fS gLen (sCons (fVar 8) sNil))) (EC n lk GS ST (smD W GS) g (.int m) (.int (W b)) (prD W b) (.list [.tuple [.int (W b), b], .list [.int (W b), b], .tuple [.int (W b), .list (enlist b)], .tuple [.int (W b + 1), b], .tuple [.int (W b), .tuple []], .none, .int 3, .tuple [.int (W b), .tuple [.tuple [.int 0, .int n]]]]) g [] y5 .no y13 .no) = some (rgD 0 GS.length) := by
    unfold iSeq
    rw [Eq.trans (s1_of (var_at rfl)) (rfl : gLen [.list GS] = some (.int GS.length))]
    exact asRg_nat (by omega)
  refine Eq.trans (seq_nx (Eq.trans (for_of e12) e11)) ?_
  refine ret_of ?_
  have ecl := F.climb est hg
  rw [← ew] at ecl
  refine Eq.trans (c2_of (Eq.trans (c2_of (var_at rfl) (var_at rfl)) ecl) (Eq.trans (s1_of (var_at rfl)) (rfl : gTuple [.list w] = some (.tuple w)))) ?_
  exact alike_tup (by omega) fun z hz => F.as z (hw z hz)
end
end DL

/-! Pl9: the two calms. -/
namespace DL
open PySem PySem.Spec PyProof.Rows L2

theorem c4_of {env : SE} {fa fb fc fd : Fe} {a b c d : PyData} {m : List PyData → Option PyData} (ha : fa env = some a) (hb : fb env = some b) (hc : fc env = some c) (hd : fd env = some d) : fS (gN 4 m) (sCons fa (sCons fb (sCons fc (sCons fd sNil)))) env = m [a, b, c, d] := by
  unfold fS sCons; rw [ha, hb, hc, hd]; rfl
/-- a loop that looks for a reason to say no -/
theorem forD_any {gt : PyData → SE → Option SE} {bb : Fb} (I : SE → Prop) (c : PyData → Bool) : ∀ (items : List PyData) (env : SE),
    (∀ z ∈ items, ∀ e, I e → ∃ e1 e2, gt z e = some e1 ∧ bb e1 = (if c z = true then some (.rt (.dat (.bool false))) else some (.nx e2)) ∧ I e2) → I env →
    ∃ e, forD gt bb items env = (if items.any c = true then some (.rt (.dat (.bool false))) else some (.nx e)) ∧ I e
  | [], env, _, h => ⟨env, rfl, h⟩
  | z :: zs, env, hs, h => by
    obtain ⟨e1, e2, q1, q2, q3⟩ := hs z List.mem_cons_self env h
    have e0 : forD gt bb (z :: zs) env = (bb e1).bind fun r => match r with
        | .nx e2 => forD gt bb zs e2
        | .ct e2 => forD gt bb zs e2
        | .bk e2 => some (.nx e2)
        | .rt d => some (.rt d) := by
      show ((gt z env).bind fun e1 => (bb e1).bind fun r => match r with
        | .nx e2 => forD gt bb zs e2
        | .ct e2 => forD gt bb zs e2
        | .bk e2 => some (.nx e2)
        | .rt d => some (.rt d)) = _
      rw [q1]
      rfl
    rw [e0, q2, List.any_cons]
    cases hc : c z with
    | true => exact ⟨env, rfl, h⟩
    | false =>
      obtain ⟨e, r1, r2⟩ := forD_any I c zs e2 (fun z' hz' => hs z' (List.mem_cons_of_mem _ hz')) q3
      exact ⟨e, r1, r2⟩
theorem any_of {i : Nat} {fi : Fs} {fe : Fe} {env : SE} {items : List PyData} {c : PyData → Bool} (h1 : fi env = some items) (h2 : ∀ d ∈ items, fe ((env.set i .no).set i (.dat d)) = some (.bool (c d))) : fAny i fi fe env = some (.bool (items.any c)) := by
  have e1 : ∀ l : List PyData, (∀ d ∈ l, d ∈ items) → gnD i fe (env.set i .no) l = some (l.map fun d => .bool (c d)) := by
    intro l
    induction l with
    | nil => exact fun _ => rfl
    | cons z zs ih =>
      intro hl
      unfold gnD
      rw [h2 z (hl z List.mem_cons_self), ih fun d hd => hl d (List.mem_cons_of_mem _ hd)]
      rfl
  have e2 : ∀ l : List PyData, blsOf (l.map fun d => .bool (c d)) = some (l.map c) := by
    intro l
    induction l with
    | nil => rfl
    | cons z zs ih =>
      rw [List.map_cons, List.map_cons]
      unfold blsOf
      rw [ih]
      rfl
  unfold fAny
  rw [h1]
  show ((gnD i fe (env.set i .no) items).bind fun ys => (blsOf ys).bind fun bs => some (PyData.bool (bs.any id))) = _
  rw [e1 items fun _ h => h]
  show ((blsOf (items.map fun d => PyData.bool (c d))).bind fun bs => some (PyData.bool (bs.any id))) = _
  rw [e2]
  show some (PyData.bool ((items.map c).any id)) = _
  rw [List.any_map]
  rfl
theorem all_of' {i : Nat} {fi : Fs} {fe : Fe} {env : SE} {items : List PyData} (h1 : fi env = some items) (h2 : ∀ d ∈ items, fe ((env.set i .no).set i (.dat d)) = some (.bool true)) : fAll i fi fe env = some (.bool true) := by
  have e1 : ∀ l : List PyData, (∀ d ∈ l, d ∈ items) → ∃ ys bs, gnD i fe (env.set i .no) l = some ys ∧ blsOf ys = some bs ∧ bs.all id = true := by
    intro l
    induction l with
    | nil => exact fun _ => ⟨[], [], rfl, rfl, rfl⟩
    | cons z zs ih =>
      intro hl
      obtain ⟨ys, bs, a1, a2, a3⟩ := ih fun d hd => hl d (List.mem_cons_of_mem _ hd)
      refine ⟨.bool true :: ys, true :: bs, ?_, ?_, ?_⟩
      · unfold gnD
        rw [h2 z (hl z List.mem_cons_self), a1]
        rfl
      · unfold blsOf
        rw [a2]
        rfl
      · show (true && bs.all id) = true
        rw [a3]
        rfl
  obtain ⟨ys, bs, a1, a2, a3⟩ := e1 items fun _ h => h
  unfold fAll
  rw [h1]
  show ((gnD i fe (env.set i .no) items).bind fun ys => (blsOf ys).bind fun bs => some (PyData.bool (bs.all id))) = _
  rw [a1]
  show ((blsOf ys).bind fun bs => some (PyData.bool (bs.all id))) = _
  rw [a2]
  show some (PyData.bool (bs.all id)) = _
  rw [a3]
theorem zpD_mem : ∀ {xs ys : List PyData} {z : PyData}, z ∈ zpD xs ys → ∃ x ∈ xs, ∃ y ∈ ys, z = .tuple [x, y]
  | [], _, _, h => nomatch (show _ ∈ ([] : List PyData) from h)
  | _ :: _, [], _, h => nomatch (show _ ∈ ([] : List PyData) from h)
  | x :: xs, y :: ys, z, h => by
    rcases List.mem_cons.mp (show z ∈ PyData.tuple [x, y] :: zpD xs ys from h) with e | e
    · exact ⟨x, List.mem_cons_self, y, List.mem_cons_self, e⟩
    · obtain ⟨x', h1, y', h2, h3⟩ := zpD_mem e
      exact ⟨x', List.mem_cons_of_mem _ h1, y', List.mem_cons_of_mem _ h2, h3⟩
/-- a sum between is some int -/
theorem sum_tot {n : Int} {ps o1 o2 : List PyData} {zs : List Int} (hp : m_pairs_of [.int n] = some (.list ps)) (hps : ∀ p ∈ ps, ∃ x y : Int, p = .tuple [.int x, .int y]) :
    ∃ i : Int, m_sum_between [.tuple o1, .tuple o2, .int n, .tuple (zs.map .int)] = some (.int i) := by
  have key := forD_inv (gt := gPr 5 6) (bb := (bIf (fOrT (fAndT (fBt (b2 gIn (b2 gIx (fVar 5) (fC (.int 0))) (fVar 0))) (fBt (b2 gIn (b2 gIx (fVar 5) (fC (.int 1))) (fVar 1)))) (fAndT (fBt (b2 gIn (b2 gIx (fVar 5) (fC (.int 0))) (fVar 1))) (fBt (b2 gIn (b2 gIx (fVar 5) (fC (.int 1))) (fVar 0))))) (bSet 4 (b2 gAdd (fVar 4) (fVar 6))) bNx)) (items := zpD ps (zs.map .int))
    (env := [.dat (.tuple o1), .dat (.tuple o2), .dat (.int n), .dat (.tuple (zs.map .int)), .dat (.int 0), .no, .no])
    (fun _ e => ∃ (i : Int) (x5 x6 : Slot), e = [.dat (.tuple o1), .dat (.tuple o2), .dat (.int n), .dat (.tuple (zs.map .int)), .dat (.int i), x5, x6]) ⟨0, .no, .no, rfl⟩ ?_
  · obtain ⟨e, e1, i, x5, x6, e2⟩ := key
    subst e2
    refine ⟨i, mk_rt ?_⟩
    refine Eq.trans (seq_nx (set_of (d := .int 0) rfl)) ?_
    have ei : (iZp (fS (gN 1 m_pairs_of) (sCons (fVar 2) sNil)) (fVar 3)) [.dat (.tuple o1), .dat (.tuple o2), .dat (.int n), .dat (.tuple (zs.map .int)), .dat (.int 0), .no, .no] = some (zpD ps (zs.map .int)) := by
      unfold iZp
      rw [Eq.trans (c1_of (var_at rfl)) hp]
      rfl
    refine Eq.trans (seq_nx (Eq.trans (for_of ei) e1)) ?_
    exact ret_of (var_at rfl)
  · rintro k z e hz ⟨i, x5, x6, rfl⟩
    obtain ⟨p, hpm, y, hy, rfl⟩ := zpD_mem (List.mem_of_getElem? hz)
    obtain ⟨u, v, rfl⟩ := hps p hpm
    obtain ⟨j, _, rfl⟩ := List.mem_map.mp hy
    generalize ht : (fOrT (fAndT (fBt (b2 gIn (b2 gIx (fVar 5) (fC (.int 0))) (fVar 0))) (fBt (b2 gIn (b2 gIx (fVar 5) (fC (.int 1))) (fVar 1)))) (fAndT (fBt (b2 gIn (b2 gIx (fVar 5) (fC (.int 0))) (fVar 1))) (fBt (b2 gIn (b2 gIx (fVar 5) (fC (.int 1))) (fVar 0))))) = tst
    have e3 : ∃ t, tst [.dat (.tuple o1), .dat (.tuple o2), .dat (.int n), .dat (.tuple (zs.map .int)), .dat (.int i), .dat (.tuple [.int u, .int v]), .dat (.int j)] = some t := by
      subst ht
      have a1 : (fBt (b2 gIn (b2 gIx (fVar 5) (fC (.int 0))) (fVar 0))) [.dat (.tuple o1), .dat (.tuple o2), .dat (.int n), .dat (.tuple (zs.map .int)), .dat (.int i), .dat (.tuple [.int u, .int v]), .dat (.int j)] = some (inD (.int u) o1) := bt_of (Eq.trans (b2_of (a := .int u) rfl (var_at rfl)) rfl)
      have a2 : (fBt (b2 gIn (b2 gIx (fVar 5) (fC (.int 1))) (fVar 1))) [.dat (.tuple o1), .dat (.tuple o2), .dat (.int n), .dat (.tuple (zs.map .int)), .dat (.int i), .dat (.tuple [.int u, .int v]), .dat (.int j)] = some (inD (.int v) o2) := bt_of (Eq.trans (b2_of (a := .int v) rfl (var_at rfl)) rfl)
      have a3 : (fBt (b2 gIn (b2 gIx (fVar 5) (fC (.int 0))) (fVar 1))) [.dat (.tuple o1), .dat (.tuple o2), .dat (.int n), .dat (.tuple (zs.map .int)), .dat (.int i), .dat (.tuple [.int u, .int v]), .dat (.int j)] = some (inD (.int u) o2) := bt_of (Eq.trans (b2_of (a := .int u) rfl (var_at rfl)) rfl)
      have a4 : (fBt (b2 gIn (b2 gIx (fVar 5) (fC (.int 1))) (fVar 0))) [.dat (.tuple o1), .dat (.tuple o2), .dat (.int n), .dat (.tuple (zs.map .int)), .dat (.int i), .dat (.tuple [.int u, .int v]), .dat (.int j)] = some (inD (.int v) o1) := bt_of (Eq.trans (b2_of (a := .int v) rfl (var_at rfl)) rfl)
      unfold fOrT fAndT
      rw [a1, a2, a3, a4]
      cases inD (.int u) o1 <;> cases inD (.int v) o2 <;> cases inD (.int u) o2 <;> exact ⟨_, rfl⟩
    obtain ⟨t, e3⟩ := e3
    cases t with
    | true => exact ⟨_, _, rfl, Eq.trans (if_t e3) (set_of (d := .int (i + j)) rfl), i + j, _, _, rfl⟩
    | false => exact ⟨_, _, rfl, skip_of e3, i, _, _, rfl⟩
def SB (n : Int) (lk x y : PyData) : Int := match m_sum_between [x, y, .int n, lk] with
  | some (.int i) => i
  | _ => 0
theorem SB_of {n : Int} {lk x y : PyData} (h : ∃ i : Int, m_sum_between [x, y, .int n, lk] = some (.int i)) : m_sum_between [x, y, .int n, lk] = some (.int (SB n lk x y)) := by
  obtain ⟨i, h⟩ := h
  unfold SB
  rw [h]
def othersD (lot p : PyData) : PyData := .tuple ((enlist lot).filter fun q => !PyData.eqv q p)
def badA1 (n : Int) (lk lot : PyData) : Bool := (enlist lot).any fun p => decide (SB n lk (.tuple [p]) (othersD lot p) < 0)
def badA2 (n : Int) (lk g : PyData) : PyData → Bool
  | .tuple [i, lot] => match gTo g i with
    | some (.tuple ys) => ys.any fun o => decide (0 < SB n lk lot o)
    | _ => false
  | _ => false
def calmA (n : Int) (lk g : PyData) : Bool := !((enlist g).any (badA1 n lk) || (enD 0 (enlist g)).any (badA2 n lk g))
/-- the shape of a grouping -/
def shapeB (g : PyData) : Bool := g.isTuple && (enlist g).all fun lot => lot.isTuple && (enlist lot).all (fun p => p.isInt) && decide ((enlist lot).length ≤ 5000)
def shape2 (g : PyData) : PyData → Bool
  | .tuple [i, lot] => lot.isTuple && match gTo g i with
    | some (.tuple ys) => ys.all fun o => o.isTuple
    | _ => false
  | _ => false
theorem tup_of {d : PyData} (h : d.isTuple = true) : d = .tuple (enlist d) := by
  cases d with
  | tuple xs => rfl
  | _ => cases h
theorem calm_of {n : Int} {ps : List PyData} {zs : List Int} {g : PyData} (hp : m_pairs_of [.int n] = some (.list ps)) (hps : ∀ p ∈ ps, ∃ x y : Int, p = .tuple [.int x, .int y]) (hn : m_size_of [g] = some (.int n))
    (h1 : shapeB g = true) (hd : ∀ lot ∈ enlist g, ∀ p ∈ enlist lot, dep p = true) (h2 : (enD 0 (enlist g)).all (shape2 g) = true) : m_calm [g, .tuple (zs.map .int)] = some (.bool (calmA n (.tuple (zs.map .int)) g)) := by
  obtain ⟨h1a, h1b⟩ := Bool.and_eq_true_iff.mp h1
  have eg := tup_of h1a
  generalize hlk : PyData.tuple (zs.map .int) = lk
  have hSB : ∀ x y : PyData, x.isTuple = true → y.isTuple = true → m_sum_between [x, y, .int n, lk] = some (.int (SB n lk x y)) := fun x y hx hy => by
    refine SB_of ?_
    rw [tup_of hx, tup_of hy, ← hlk]
    exact sum_tot hp hps
  have k1 := forD_any (gt := gNm 3) (bb := (bFor (iSeq asTup (fVar 3)) (gNm 4) (bIf (fBt (b2 gLt (fS (gN 4 m_sum_between) (sCons (fS gTup (sCons (fVar 4) sNil)) (sCons (fS gTuple (sCons (fLc 7 (iSeq asTup (fVar 3)) (fBt (b2 gNe (fVar 7) (fVar 4))) (fVar 7)) sNil)) (sCons (fVar 2) (sCons (fVar 1) sNil))))) (fC (.int 0)))) (bRet (fC (.bool false))) bNx))) (fun e => ∃ x3 x4, e = [.dat g, .dat lk, .dat (.int n), x3, x4, .no, .no, .no]) (badA1 n lk) (enlist g) [.dat g, .dat lk, .dat (.int n), .no, .no, .no, .no, .no] ?_ ⟨.no, .no, rfl⟩
  · obtain ⟨e, k1, x3, x4, rfl⟩ := k1
    have k2 := forD_any (gt := gPr 5 3) (bb := (bIf (fTru (fAny 6 (iSeq asTup (b2 gTo (fVar 0) (fVar 5))) (b2 gGt (fS (gN 4 m_sum_between) (sCons (fVar 3) (sCons (fVar 6) (sCons (fVar 2) (sCons (fVar 1) sNil))))) (fC (.int 0))))) (bRet (fC (.bool false))) bNx)) (fun e => ∃ x3 x4 x5, e = [.dat g, .dat lk, .dat (.int n), x3, x4, x5, .no, .no]) (badA2 n lk g) (enD 0 (enlist g)) [.dat g, .dat lk, .dat (.int n), x3, x4, .no, .no, .no] ?_ ⟨x3, x4, .no, rfl⟩
    · obtain ⟨e, k2, y3, y4, y5, rfl⟩ := k2
      refine mk_rt ?_
      refine Eq.trans (seq_nx (set_of (Eq.trans (c1_of (var_at rfl)) hn))) ?_
      have f1' : (iSeq asTup (fVar 0)) [.dat g, .dat lk, .dat (.int n), .no, .no, .no, .no, .no] = some (enlist g) := it_of (by rw [var_at rfl]; exact congrArg some eg)
      have f2' : (iEn (fVar 0)) [.dat g, .dat lk, .dat (.int n), x3, x4, .no, .no, .no] = some (enD 0 (enlist g)) := by
        unfold iEn
        rw [var_at rfl, eg]
        rfl
      cases c1 : (enlist g).any (badA1 n lk) with
      | true =>
        rw [c1] at k1
        refine Eq.trans (seq_rt (Eq.trans (for_of f1') k1)) ?_
        unfold calmA
        rw [c1]
        rfl
      | false =>
        rw [c1] at k1
        refine Eq.trans (seq_nx (Eq.trans (for_of f1') k1)) ?_
        cases c2 : (enD 0 (enlist g)).any (badA2 n lk g) with
        | true =>
          rw [c2] at k2
          refine Eq.trans (seq_rt (Eq.trans (for_of f2') k2)) ?_
          unfold calmA
          rw [c1, c2]
          rfl
        | false =>
          rw [c2] at k2
          refine Eq.trans (seq_nx (Eq.trans (for_of f2') k2)) ?_
          unfold calmA
          rw [c1, c2]
          rfl
    · rintro z hz e ⟨y3, y4, y5, rfl⟩
      have hz2 := List.all_eq_true.mp h2 z hz
      have : ∃ i lot ys, z = .tuple [i, lot] ∧ lot.isTuple = true ∧ gTo g i = some (.tuple ys) ∧ ∀ o ∈ ys, o.isTuple = true := by
        unfold shape2 at hz2
        split at hz2
        · rename_i i lot
          obtain ⟨a1, a2⟩ := Bool.and_eq_true_iff.mp hz2
          split at a2
          · rename_i ys q
            exact ⟨i, lot, ys, rfl, a1, q, List.all_eq_true.mp a2⟩
          · cases a2
        · cases hz2
      obtain ⟨i, lot, ys, rfl, a1, a2, a3⟩ := this
      refine ⟨[.dat g, .dat lk, .dat (.int n), .dat lot, y4, .dat i, .no, .no], [.dat g, .dat lk, .dat (.int n), .dat lot, y4, .dat i, .no, .no], rfl, ?_, _, _, _, rfl⟩
      have ea : (fTru (fAny 6 (iSeq asTup (b2 gTo (fVar 0) (fVar 5))) (b2 gGt (fS (gN 4 m_sum_between) (sCons (fVar 3) (sCons (fVar 6) (sCons (fVar 2) (sCons (fVar 1) sNil))))) (fC (.int 0))))) [.dat g, .dat lk, .dat (.int n), .dat lot, y4, .dat i, .no, .no] = some (badA2 n lk g (.tuple [i, lot])) := by
        have e9 : badA2 n lk g (.tuple [i, lot]) = ys.any fun o => decide (0 < SB n lk lot o) := by
          show (match gTo g i with
            | some (.tuple ys) => ys.any fun o => decide (0 < SB n lk lot o)
            | _ => false) = _
          rw [a2]
        rw [e9]
        refine tru_of' (any_of (c := fun o => decide (0 < SB n lk lot o)) (it_of (Eq.trans (b2_of (var_at rfl) (var_at rfl)) a2)) fun d hd => ?_) rfl
        exact Eq.trans (b2_of (b := .int 0) (Eq.trans (c4_of (var_at rfl) (var_at rfl) (var_at rfl) (var_at rfl)) (hSB lot d a1 (a3 d hd))) rfl) rfl
      cases c : badA2 n lk g (.tuple [i, lot]) with
      | true => rw [c] at ea; exact Eq.trans (if_t ea) rfl
      | false => rw [c] at ea; exact Eq.trans (if_f ea) rfl
  · rintro lot hl e ⟨y3, y4, rfl⟩
    have hl2 := List.all_eq_true.mp h1b lot hl
    obtain ⟨hl3, hl4⟩ := Bool.and_eq_true_iff.mp hl2
    obtain ⟨hl5, hl6⟩ := Bool.and_eq_true_iff.mp hl3
    have elot := tup_of hl5
    have k3 := forD_any (gt := gNm 4) (bb := (bIf (fBt (b2 gLt (fS (gN 4 m_sum_between) (sCons (fS gTup (sCons (fVar 4) sNil)) (sCons (fS gTuple (sCons (fLc 7 (iSeq asTup (fVar 3)) (fBt (b2 gNe (fVar 7) (fVar 4))) (fVar 7)) sNil)) (sCons (fVar 2) (sCons (fVar 1) sNil))))) (fC (.int 0)))) (bRet (fC (.bool false))) bNx)) (fun e => ∃ x4, e = [.dat g, .dat lk, .dat (.int n), .dat lot, x4, .no, .no, .no]) (fun p => decide (SB n lk (.tuple [p]) (othersD lot p) < 0)) (enlist lot) [.dat g, .dat lk, .dat (.int n), .dat lot, y4, .no, .no, .no] ?_ ⟨y4, rfl⟩
    · obtain ⟨e, k3, x4, rfl⟩ := k3
      exact ⟨_, _, rfl, Eq.trans (for_of (it_of (by rw [var_at (i := 3) rfl]; exact congrArg some elot))) k3, _, _, rfl⟩
    · rintro p hpp e ⟨x4, rfl⟩
      refine ⟨[.dat g, .dat lk, .dat (.int n), .dat lot, .dat p, .no, .no, .no], [.dat g, .dat lk, .dat (.int n), .dat lot, .dat p, .no, .no, .no], rfl, ?_, _, rfl⟩
      have eo : (fS gTuple (sCons (fLc 7 (iSeq asTup (fVar 3)) (fBt (b2 gNe (fVar 7) (fVar 4))) (fVar 7)) sNil)) [.dat g, .dat lk, .dat (.int n), .dat lot, .dat p, .no, .no, .no] = some (othersD lot p) := by
        refine Eq.trans (s1_of (lc_of (out := (enlist lot).filter fun q => !PyData.eqv q p) (it_of (by rw [var_at (i := 3) rfl]; exact congrArg some elot)) ?_ ?_)) rfl
        · refine Eq.trans (lcD_filter (p := fun q => !PyData.eqv q p) (h := id) fun d hd' => ⟨bt_of (Eq.trans (b2_of (var_at rfl) (var_at rfl)) (gNe_of (hd lot hl d hd'))), fun _ => var_at rfl⟩) ?_
          rw [List.map_id]
        · have := List.length_filter_le (fun q => !PyData.eqv q p) (enlist lot)
          have := of_decide_eq_true hl4
          omega
      have et : (fBt (b2 gLt (fS (gN 4 m_sum_between) (sCons (fS gTup (sCons (fVar 4) sNil)) (sCons (fS gTuple (sCons (fLc 7 (iSeq asTup (fVar 3)) (fBt (b2 gNe (fVar 7) (fVar 4))) (fVar 7)) sNil)) (sCons (fVar 2) (sCons (fVar 1) sNil))))) (fC (.int 0)))) [.dat g, .dat lk, .dat (.int n), .dat lot, .dat p, .no, .no, .no] = some (decide (SB n lk (.tuple [p]) (othersD lot p) < 0)) := by
        exact bt_of (Eq.trans (b2_of (a := .int (SB n lk (.tuple [p]) (othersD lot p))) (b := .int 0) (Eq.trans (c4_of (a := .tuple [p]) rfl eo (var_at rfl) (var_at rfl)) (hSB (.tuple [p]) (othersD lot p) rfl rfl)) rfl) rfl)
      cases c : decide (SB n lk (.tuple [p]) (othersD lot p) < 0) with
      | true => rw [c] at et; exact Eq.trans (if_t et) rfl
      | false => rw [c] at et; exact Eq.trans (if_f et) rfl
end DL

/-! Pl10: the facts from checks. -/
namespace DL
open PySem PySem.Spec PyProof.Rows L2

def badB2 (W : PyData → Int) (nx : PyData → PyData → PyData) (n : Int) (g : PyData) : PyData → Bool
  | .int i => (rgD (i + 1) (n - (i + 1)).toNat).any fun q => decide (W g < W (nx g (.tuple [.int i, q])))
  | _ => false
def calmB (W : PyData → Int) (nx : PyData → PyData → PyData) (n : Int) (g : PyData) : Bool :=
  !((rgD 0 n.toNat).any (fun p => decide (W g < W (nx g (.tuple [p])))) || (rgD 0 n.toNat).any (badB2 W nx n g))
theorem law_calm_of {n : Int} {lk g : PyData} {ls : List PyData} {W : PyData → Int} {nx : PyData → PyData → PyData} (n1 : 1 ≤ n) (n4 : n ≤ 4) (hl : frzM m__law_labels [g] = some (.list ls)) (hk : (ls.length : Int) = n)
    (hw : m__law_worth [g, lk] = some (.int (W g)))
    (h1 : ∀ p ∈ rgD 0 n.toNat, m__law_step [g, .tuple [p]] = some (nx g (.tuple [p])) ∧ m__law_worth [nx g (.tuple [p]), lk] = some (.int (W (nx g (.tuple [p])))))
    (h2 : ∀ i : Int, PyData.int i ∈ rgD 0 n.toNat → ∀ q ∈ rgD (i + 1) (n - (i + 1)).toNat, m__law_step [g, .tuple [.int i, q]] = some (nx g (.tuple [.int i, q])) ∧ m__law_worth [nx g (.tuple [.int i, q]), lk] = some (.int (W (nx g (.tuple [.int i, q]))))) :
    m__law_calm [g, lk] = some (.bool (calmB W nx n g)) := by
  have er : rgD 0 ls.length = rgD 0 n.toNat := by rw [← hk]; rfl
  have eR : ∀ (e : SE), e[2]? = some (.dat (.list ls)) → (iSeq asRg (fS gLen (sCons (fVar 2) sNil))) e = some (rgD 0 n.toNat) := fun e he => by
    unfold iSeq
    rw [Eq.trans (s1_of (var_at he)) (rfl : gLen [.list ls] = some (.int ls.length)), ← er]
    exact asRg_nat (by omega)
  have k1 := forD_any (gt := gNm 4) (bb := (bIf (fBt (b2 gGt (fS (gN 2 m__law_worth) (sCons (fS (gN 2 m__law_step) (sCons (fVar 0) (sCons (fS gTup (sCons (fVar 4) sNil)) sNil))) (sCons (fVar 1) sNil))) (fVar 3))) (bRet (fC (.bool false))) bNx)) (fun e => ∃ x4, e = [.dat g, .dat lk, .dat (.list ls), .dat (.int (W g)), x4, .no, .no]) (fun p => decide (W g < W (nx g (.tuple [p])))) (rgD 0 n.toNat) [.dat g, .dat lk, .dat (.list ls), .dat (.int (W g)), .no, .no, .no] ?_ ⟨.no, rfl⟩
  · obtain ⟨e, k1, x4, rfl⟩ := k1
    have k2 := forD_any (gt := gNm 5) (bb := (bFor (iRg2 (b2 gAdd (fVar 5) (fC (.int 1))) (fS gLen (sCons (fVar 2) sNil))) (gNm 6) (bIf (fBt (b2 gGt (fS (gN 2 m__law_worth) (sCons (fS (gN 2 m__law_step) (sCons (fVar 0) (sCons (fS gTup (sCons (fVar 5) (sCons (fVar 6) sNil))) sNil))) (sCons (fVar 1) sNil))) (fVar 3))) (bRet (fC (.bool false))) bNx))) (fun e => ∃ x5 x6, e = [.dat g, .dat lk, .dat (.list ls), .dat (.int (W g)), x4, x5, x6]) (badB2 W nx n g) (rgD 0 n.toNat) [.dat g, .dat lk, .dat (.list ls), .dat (.int (W g)), x4, .no, .no] ?_ ⟨.no, .no, rfl⟩
    · obtain ⟨e, k2, y5, y6, rfl⟩ := k2
      refine mk_rt ?_
      refine Eq.trans (seq_nx (set_of (Eq.trans (c1_of (var_at rfl)) hl))) ?_
      refine Eq.trans (seq_nx (set_of (Eq.trans (c2_of (var_at rfl) (var_at rfl)) hw))) ?_
      cases c1 : (rgD 0 n.toNat).any (fun p => decide (W g < W (nx g (.tuple [p])))) with
      | true =>
        rw [c1] at k1
        refine Eq.trans (seq_rt (Eq.trans (for_of (eR _ rfl)) k1)) ?_
        unfold calmB
        rw [c1]
        rfl
      | false =>
        rw [c1] at k1
        refine Eq.trans (seq_nx (Eq.trans (for_of (eR _ rfl)) k1)) ?_
        cases c2 : (rgD 0 n.toNat).any (badB2 W nx n g) with
        | true =>
          rw [c2] at k2
          refine Eq.trans (seq_rt (Eq.trans (for_of (eR _ rfl)) k2)) ?_
          unfold calmB
          rw [c1, c2]
          rfl
        | false =>
          rw [c2] at k2
          refine Eq.trans (seq_nx (Eq.trans (for_of (eR _ rfl)) k2)) ?_
          unfold calmB
          rw [c1, c2]
          rfl
    · rintro z hz e ⟨y5, y6, rfl⟩
      obtain ⟨i, hi, rfl⟩ := rgD_mem hz
      have k3 := forD_any (gt := gNm 6) (bb := (bIf (fBt (b2 gGt (fS (gN 2 m__law_worth) (sCons (fS (gN 2 m__law_step) (sCons (fVar 0) (sCons (fS gTup (sCons (fVar 5) (sCons (fVar 6) sNil))) sNil))) (sCons (fVar 1) sNil))) (fVar 3))) (bRet (fC (.bool false))) bNx)) (fun e => ∃ x6, e = [.dat g, .dat lk, .dat (.list ls), .dat (.int (W g)), x4, .dat (.int (i : Int)), x6]) (fun q => decide (W g < W (nx g (.tuple [.int (i : Int), q])))) (rgD ((i : Int) + 1) (n - ((i : Int) + 1)).toNat) [.dat g, .dat lk, .dat (.list ls), .dat (.int (W g)), x4, .dat (.int (i : Int)), y6] ?_ ⟨y6, rfl⟩
      · obtain ⟨e, k3, x6, rfl⟩ := k3
        refine ⟨_, _, rfl, Eq.trans (for_of ?_) k3, _, _, rfl⟩
        unfold iRg2
        rw [Eq.trans (b2_of (b := .int 1) (var_at rfl) rfl) (rfl : gAdd (.int (i : Int)) (.int 1) = some (.int ((i : Int) + 1)))]
        rw [Eq.trans (s1_of (var_at rfl)) (rfl : gLen [.list ls] = some (.int ls.length))]
        show (if -1000 ≤ (i : Int) + 1 ∧ (i : Int) + 1 ≤ 1000 ∧ -1000 ≤ (ls.length : Int) ∧ (ls.length : Int) ≤ 1000 then some (rgD ((i : Int) + 1) ((ls.length : Int) - ((i : Int) + 1)).toNat) else none) = _
        rw [hk, if_pos ⟨by omega, by omega, by omega, by omega⟩]
      · rintro q hq e ⟨x6, rfl⟩
        obtain ⟨s1, s2⟩ := h2 i hz q hq
        refine ⟨[.dat g, .dat lk, .dat (.list ls), .dat (.int (W g)), x4, .dat (.int (i : Int)), .dat q], _, rfl, ?_, .dat q, rfl⟩
        have et : (fBt (b2 gGt (fS (gN 2 m__law_worth) (sCons (fS (gN 2 m__law_step) (sCons (fVar 0) (sCons (fS gTup (sCons (fVar 5) (sCons (fVar 6) sNil))) sNil))) (sCons (fVar 1) sNil))) (fVar 3))) [.dat g, .dat lk, .dat (.list ls), .dat (.int (W g)), x4, .dat (.int (i : Int)), .dat q] = some (decide (W g < W (nx g (.tuple [.int (i : Int), q])))) :=
          bt_of (Eq.trans (b2_of (Eq.trans (c2_of (Eq.trans (c2_of (b := .tuple [.int (i : Int), q]) (var_at rfl) rfl) s1) (var_at rfl)) s2) (var_at rfl)) rfl)
        cases c : decide (W g < W (nx g (.tuple [.int (i : Int), q]))) with
        | true => rw [c] at et; exact Eq.trans (if_t et) rfl
        | false => rw [c] at et; exact Eq.trans (if_f et) rfl
  · rintro p hp e ⟨x4, rfl⟩
    obtain ⟨s1, s2⟩ := h1 p hp
    refine ⟨[.dat g, .dat lk, .dat (.list ls), .dat (.int (W g)), .dat p, .no, .no], _, rfl, ?_, .dat p, rfl⟩
    have et : (fBt (b2 gGt (fS (gN 2 m__law_worth) (sCons (fS (gN 2 m__law_step) (sCons (fVar 0) (sCons (fS gTup (sCons (fVar 4) sNil)) sNil))) (sCons (fVar 1) sNil))) (fVar 3))) [.dat g, .dat lk, .dat (.list ls), .dat (.int (W g)), .dat p, .no, .no] = some (decide (W g < W (nx g (.tuple [p])))) :=
      bt_of (Eq.trans (b2_of (Eq.trans (c2_of (Eq.trans (c2_of (b := .tuple [p]) (var_at rfl) rfl) s1) (var_at rfl)) s2) (var_at rfl)) rfl)
    cases c : decide (W g < W (nx g (.tuple [p]))) with
    | true => rw [c] at et; exact Eq.trans (if_t et) rfl
    | false => rw [c] at et; exact Eq.trans (if_f et) rfl
/-! ### likings in bounds -/
theorem need_lik {n : Int} {zs : List Int} (n1 : 1 ≤ n) (n4 : n ≤ 4) (hl : (zs.length : Int) = n * (n - 1) / 2) (hz : ∀ z ∈ zs, -7 ≤ z ∧ z ≤ 7) : m_need_likings [.int n, .tuple (zs.map .int)] = some .none := by
  have ea : m_are_likings [.int n, .tuple (zs.map .int)] = some (.bool true) := by
    refine mk_rt ?_
    refine Eq.trans (seq_nx (skip_of (Eq.trans (or_f rfl) ?_))) ?_
    · have en : (b2 gDiv (b2 gMul (fVar 0) (b2 gSub (fVar 0) (fC (.int 1)))) (fC (.int 2))) [.dat (.int n), .dat (.tuple (zs.map .int)), .no] = some (.int (n * (n - 1) / 2)) := by
        have : n = 1 ∨ n = 2 ∨ n = 3 ∨ n = 4 := by omega
        rcases this with rfl | rfl | rfl | rfl <;> rfl
      refine bt_of (Eq.trans (b2_of (Eq.trans (s1_of (var_at rfl)) (rfl : gLen [.tuple (zs.map .int)] = some (.int (zs.map PyData.int).length))) en) ?_)
      rw [gNe_of rfl, eqv_int, List.length_map, hl, beq_self_eq_true]
      rfl
    · refine ret_of (all_of' (it_of (var_at rfl)) fun d hd => ?_)
      obtain ⟨z, hzm, rfl⟩ := List.mem_map.mp hd
      obtain ⟨b1, b2'⟩ := hz z hzm
      refine Eq.trans (c3_of (b := .int (-100)) (c := .int 100) (var_at rfl) rfl rfl) ?_
      rw [is_in_int, decide_eq_true ⟨by omega, by omega⟩]
  refine mk_nx (skip_of (not_of (tru_of' (Eq.trans (c2_of (var_at rfl) (var_at rfl)) ea) rfl)))
theorem need_lkd {n : Int} {lk : PyData} (n1 : 1 ≤ n) (n4 : n ≤ 4) (h : m_need_likings [.int n, lk] = some .none) : m_need_liked [.int n, lk] = some .none := by
  refine mk_nx (Eq.trans (seq_nx (do_of (Eq.trans (c1_of (var_at rfl)) (?_ : m_need_size [.int n] = some .none)))) (do_of (Eq.trans (c2_of (var_at rfl) (var_at rfl)) h)))
  refine mk_nx (skip_of (not_of (tru_of' (Eq.trans (c3_of (b := .int 1) (c := .int 6) (var_at rfl) rfl rfl) (?_ : m_is_in [.int n, .int 1, .int 6] = some (.bool true))) rfl)))
  rw [is_in_int, decide_eq_true ⟨by omega, by omega⟩]
/-! ### checks -/
def hasD (l : List PyData) (x : PyData) : Bool := l.any fun y => sameD y x
theorem hasD_mem {l : List PyData} {x : PyData} (h : hasD l x = true) : x ∈ l := by
  obtain ⟨y, h1, h2⟩ := List.any_eq_true.mp h
  rw [← sameD_eq h2]
  exact h1
def nxF (g s : PyData) : PyData := (m_stepped [g, s]).getD .none
def stB (GS : List PyData) (g s : PyData) : Bool := match m_stepped [g, s] with
  | some x => sameO (m__law_step [g, s]) (some x) && hasD GS x
  | none => false
def lbB (n : Int) (g : PyData) : Bool := match frzM m__law_labels [g] with
  | some (.list ls) => decide ((ls.length : Int) = n)
  | _ => false
def chkG (n : Int) (GS ST : List PyData) (g : PyData) : Bool :=
  sameO (m_need_grouping [g]) (some .none) && (sameO (m_size_of [g]) (some (.int n)) && (sameO (m_is_grouping [g]) (some (.bool true)) && (ST.all (stB GS g) && (g.isTuple && (decide (g.depth ≤ 50) && (SeqAt.shaped g && (PyData.eqv g g && (GS.all (fun h => PySem.W.alike g h) && (sameO (m__law_alike 5 [g, g]) (some (.bool true)) && (shapeB g && ((enlist g).all (fun lot => (enlist lot).all dep) && ((enD 0 (enlist g)).all (shape2 g) && lbB n g))))))))))))
def pairB : PyData → Bool
  | .tuple [.int _, .int _] => true
  | _ => false
def inST (n : Int) (ST : List PyData) : PyData → Bool
  | .int i => (rgD (i + 1) (n - (i + 1)).toNat).all fun q => hasD ST (.tuple [.int i, q])
  | _ => false
def lotB (GS : List PyData) (k : Nat) : Bool := GS.any fun g => decide ((enlist g).length = k + 1)
def badB (n : Int) (bd : Bool) (sd : Int) : Bool := sameO (m_is_grouping [.tuple [.tuple [.int 0, .int n]]]) (some (.bool bd)) && (sameO (m_size_of [.tuple [.tuple [.int 0, .int n]]]) (some (.int sd)) && (!bd || !(sd == n)))
def chk (n : Int) (GS ST PS : List PyData) (bd : Bool) (sd : Int) : Bool :=
  sameO (m_all_groupings [.int n]) (some (.list GS)) && (sameO (m_all_steps [.int n]) (some (.list ST)) && (sameO (m__law_steps [.int n]) (some (.list ST)) && (sameO (m_pairs_of [.int n]) (some (.list PS)) && (PS.all pairB && (decide (0 < GS.length) && (decide (GS.length ≤ 15) && (decide (0 < ST.length) && (decide (ST.length ≤ 10) && (pwB GS && (SeqAt.shaped (.list GS) && ((List.range n.toNat).all (lotB GS) && (!inD (.tuple []) GS && (!inD (.tuple [.tuple [.int 0, .int n]]) GS && (badB n bd sd && ((rgD 0 n.toNat).all (fun p => hasD ST (.tuple [p])) && ((rgD 0 n.toNat).all (inST n ST) && (GS.all (chkG n GS ST) && ST.all (fun s => sameO (m__law_alike 5 [s, s]) (some (.bool true))))))))))))))))))))
theorem fx_of {n : Int} {GS ST PS : List PyData} {bd : Bool} {sd : Int} {zs : List Int} {W : PyData → Int} (n1 : 1 ≤ n) (n4 : n ≤ 4) (hc : chk n GS ST PS bd sd = true) (hl : (zs.length : Int) = n * (n - 1) / 2) (hz : ∀ z ∈ zs, -7 ≤ z ∧ z ≤ 7)
    (w1 : ∀ g ∈ GS, m_worth_of [g, .tuple (zs.map .int)] = some (.int (W g))) (w2 : ∀ g ∈ GS, m__law_worth [g, .tuple (zs.map .int)] = some (.int (W g))) (hAB : ∀ g ∈ GS, calmA n (.tuple (zs.map .int)) g = calmB W nxF n g) :
    Fx n (.tuple (zs.map .int)) GS ST W (calmB W nxF n) nxF := by
  unfold chk at hc
  simp only [Bool.and_eq_true, List.all_eq_true, decide_eq_true_eq, Bool.not_eq_true'] at hc
  obtain ⟨a1, a2, a3, a4, a5, a6, a7, a8, a9, a10, a11, a12, a13, a14, a15, a16, a17, a18, a19⟩ := hc
  have hG : ∀ g ∈ GS, chkG n GS ST g = true := a18
  unfold chkG at hG
  simp only [Bool.and_eq_true, List.all_eq_true, decide_eq_true_eq] at hG
  have hst : ∀ g ∈ GS, ∀ s ∈ ST, m_stepped [g, s] = some (nxF g s) ∧ m__law_step [g, s] = some (nxF g s) ∧ nxF g s ∈ GS := fun g hg s hs => by
    obtain ⟨_, _, _, b4, _⟩ := hG g hg
    have b := b4 s hs
    unfold stB at b
    unfold nxF
    cases e : m_stepped [g, s] with
    | none => rw [e] at b; cases b
    | some x =>
      rw [e] at b
      obtain ⟨c1, c2⟩ := Bool.and_eq_true_iff.mp b
      exact ⟨rfl, sameO_eq c1, hasD_mem c2⟩
  have hps : ∀ p ∈ PS, ∃ x y : Int, p = .tuple [.int x, .int y] := fun p hp => by
    have b := a5 p hp
    unfold pairB at b
    split at b
    · exact ⟨_, _, rfl⟩
    · cases b
  have hnl := need_lik n1 n4 hl hz
  have hlots : ∀ m : Int, 1 ≤ m → m ≤ n → ∃ g ∈ GS, ((enlist g).length : Int) = m := fun m m1 m2 => by
    have b := a12 (m.toNat - 1) (List.mem_range.mpr (by omega))
    obtain ⟨g, g1, g2⟩ := List.any_eq_true.mp b
    have g3 := of_decide_eq_true g2
    exact ⟨g, g1, by omega⟩
  have hb3 : ∃ b s, m_is_grouping [.tuple [.tuple [.int 0, .int n]]] = some (.bool b) ∧ m_size_of [.tuple [.tuple [.int 0, .int n]]] = some (.int s) ∧ (b = true → (s == n) = false) := by
    unfold badB at a15
    obtain ⟨b1, b2'⟩ := Bool.and_eq_true_iff.mp a15
    obtain ⟨b3, b4⟩ := Bool.and_eq_true_iff.mp b2'
    refine ⟨bd, sd, sameO_eq b1, sameO_eq b3, fun h => ?_⟩
    rw [h] at b4
    simpa using b4
  have hc2 : ∀ g ∈ GS, m__law_calm [g, .tuple (zs.map .int)] = some (.bool (calmB W nxF n g)) := fun g hg => by
    obtain ⟨_, _, _, _, _, _, _, _, _, _, _, _, _, b14⟩ := hG g hg
    unfold lbB at b14
    split at b14
    · rename_i ls els
      refine law_calm_of n1 n4 els (of_decide_eq_true b14) (w2 g hg) (fun p hp => ?_) fun i hi q hq => ?_
      · have hs := hasD_mem (a16 p hp)
        obtain ⟨_, t2, t3⟩ := hst g hg _ hs
        exact ⟨t2, w2 _ t3⟩
      · have hs0 := a17 _ hi
        have hs := hasD_mem (List.all_eq_true.mp (show ((rgD (i + 1) (n - (i + 1)).toNat).all fun q => hasD ST (.tuple [.int i, q])) = true from hs0) q hq)
        obtain ⟨_, t2, t3⟩ := hst g hg _ hs
        exact ⟨t2, w2 _ t3⟩
    · cases b14
  exact {
    n1 := n1
    n4 := n4
    gs1 := sameO_eq a1
    st1 := sameO_eq a2
    st2 := sameO_eq a3
    ne := fun z => by rw [z] at a6; exact absurd a6 (by decide)
    few := a7
    sne := fun z => by rw [z] at a8; exact absurd a8 (by decide)
    sfew := a9
    w1 := w1
    w2 := w2
    ng := fun g hg => sameO_eq (hG g hg).1
    sz := fun g hg => sameO_eq (hG g hg).2.1
    ig := fun g hg => sameO_eq (hG g hg).2.2.1
    nl := hnl
    nd := need_lkd n1 n4 hnl
    sp1 := fun g hg s hs => (hst g hg s hs).1
    sp2 := fun g hg s hs => (hst g hg s hs).2.1
    sp3 := fun g hg s hs => (hst g hg s hs).2.2
    c1 := fun g hg => by
      obtain ⟨_, b2', _, _, _, _, _, _, _, _, b11, b12, b13, _⟩ := hG g hg
      rw [calm_of (sameO_eq a4) hps (sameO_eq b2') b11 b12 (List.all_eq_true.mpr b13), hAB g hg]
    c2 := hc2
    tup := fun g hg => tup_of (hG g hg).2.2.2.2.1
    dp := fun g hg => (hG g hg).2.2.2.2.2.1
    sh := fun g hg => (hG g hg).2.2.2.2.2.2.1
    shs := a11
    pw := a10
    rf := fun g hg => (hG g hg).2.2.2.2.2.2.2.1
    al := fun g hg => (hG g hg).2.2.2.2.2.2.2.2.1
    lots := hlots
    bad1 := a13
    bad2 := a14
    bad3 := hb3
    ag := fun g hg => sameO_eq (hG g hg).2.2.2.2.2.2.2.2.2.1
    as := fun s hs => sameO_eq (a19 s hs) }
end DL

/-! Pk1: the facts of size 1. -/
namespace DL
open PySem PySem.Spec PyProof.Rows L2
abbrev g1_0 : PyData := .tuple [.tuple [.int 0]]
abbrev GS1 : List PyData := [g1_0]
abbrev ST1 : List PyData := [.tuple [.int 0]]
abbrev PS1 : List PyData := []
theorem gl1 : m__law_groupings [.int 1] = some (.list GS1) := sameO_eq (by decide +kernel)
theorem chk1 : chk 1 GS1 ST1 PS1 true 2 = true := by decide +kernel
def W1 (g : PyData) : Int := match m_worth_of [g, .tuple (([] : List Int).map .int)] with
  | some (.int i) => i
  | _ => 0
theorem wa1_0 : m_worth_of [g1_0, .tuple (([] : List Int).map .int)] = some (.int ((0 : Int))) := by kernel_rfl
theorem wb1_0 : m__law_worth [g1_0, .tuple (([] : List Int).map .int)] = some (.int ((0 : Int))) := by kernel_rfl
theorem we1_0 : W1  g1_0 = (0 : Int) := by unfold W1; rw [wa1_0]
theorem ca1_0 : calmA 1 (.tuple (([] : List Int).map .int)) g1_0 = (!(((decide ((0 : Int) < 0) || false) || false) || (false || false))) := by kernel_rfl
theorem cb1_0 : calmB (W1 ) nxF 1 g1_0 = (!((decide ((0 : Int) < (0 : Int)) || false) || (false || false))) := by kernel_rfl
theorem cc1_0 : calmA 1 (.tuple (([] : List Int).map .int)) g1_0 = calmB (W1 ) nxF 1 g1_0 := by
  rw [ca1_0, cb1_0, Bool.eq_iff_iff]
  simp only [Bool.not_eq_true', Bool.or_eq_false_iff, decide_eq_false_iff_not, and_true, true_and]
  all_goals (constructor <;> intro h <;> and_intros <;> first | trivial | omega)
theorem w1_1 : ∀ g ∈ GS1, m_worth_of [g, .tuple (([] : List Int).map .int)] = some (.int (W1  g)) := by
  intro g hg
  simp only [GS1, List.mem_cons, List.not_mem_nil, or_false] at hg
  rcases hg with rfl
  · rw [we1_0]; exact wa1_0
theorem w2_1 : ∀ g ∈ GS1, m__law_worth [g, .tuple (([] : List Int).map .int)] = some (.int (W1  g)) := by
  intro g hg
  simp only [GS1, List.mem_cons, List.not_mem_nil, or_false] at hg
  rcases hg with rfl
  · rw [we1_0]; exact Eq.trans wb1_0 (congrArg (fun z : Int => some (PyData.int z)) (by omega))
theorem cAB_1 : ∀ g ∈ GS1, calmA 1 (.tuple (([] : List Int).map .int)) g = calmB (W1 ) nxF 1 g := by
  intro g hg
  simp only [GS1, List.mem_cons, List.not_mem_nil, or_false] at hg
  rcases hg with rfl
  · exact cc1_0
theorem len1_ : ∀ {zs : List Int}, zs.length = 0 → zs = []
  | [], _ => rfl
theorem plain1 (zs : List Int) (hl : (zs.length : Int) = (1 : Int) * (1 - 1) / 2) (hz : ∀ z ∈ zs, -7 ≤ z ∧ z ≤ 7) :
    ∃ GS : List PyData, m__law_groupings [.int 1] = some (.list GS) ∧ 0 < GS.length ∧ GS.length < 1000 ∧ ∀ g ∈ GS, ∀ m : Int, 1 ≤ m → m ≤ 1 → b_law ([.no, .no, .dat (.int 1), .no, .no, .no, .no, .dat (.tuple (zs.map .int)), .dat (.list GS), .dat g, .dat (.int m), .no, .no, .no, .no, .no, .no, .no, .no, .no, .no] : SE) = some (.rt (.dat (.bool true))) := by
  have h0 : zs.length = 0 := by omega
  obtain rfl := len1_ h0
  exact ⟨GS1, gl1, by decide, by decide, fun g hg m m1 m2 => Fx.law (fx_of (W := W1 ) (by decide) (by decide) chk1 hl hz w1_1 w2_1 cAB_1) hg m m1 m2⟩
end DL

/-! Pk2: the facts of size 2. -/
namespace DL
open PySem PySem.Spec PyProof.Rows L2
abbrev g2_0 : PyData := .tuple [.tuple [.int 0], .tuple [.int 1]]
abbrev g2_1 : PyData := .tuple [.tuple [.int 0, .int 1]]
abbrev GS2 : List PyData := [g2_0, g2_1]
abbrev ST2 : List PyData := [.tuple [.int 0], .tuple [.int 0, .int 1], .tuple [.int 1]]
abbrev PS2 : List PyData := [.tuple [.int 0, .int 1]]
theorem gl2 : m__law_groupings [.int 2] = some (.list GS2) := sameO_eq (by decide +kernel)
theorem chk2 : chk 2 GS2 ST2 PS2 false 2 = true := by decide +kernel
def W2 (a : Int) (g : PyData) : Int := match m_worth_of [g, .tuple (([a] : List Int).map .int)] with
  | some (.int i) => i
  | _ => 0
theorem wa2_0 {a : Int} : m_worth_of [g2_0, .tuple (([a] : List Int).map .int)] = some (.int ((0 : Int))) := by kernel_rfl
theorem wb2_0 {a : Int} : m__law_worth [g2_0, .tuple (([a] : List Int).map .int)] = some (.int ((0 : Int) + a * 0)) := by kernel_rfl
theorem we2_0 {a : Int} : W2 a g2_0 = (0 : Int) := by unfold W2; rw [wa2_0]
theorem ca2_0 {a : Int} : calmA 2 (.tuple (([a] : List Int).map .int)) g2_0 = (!(((decide ((0 : Int) < 0) || false) || ((decide ((0 : Int) < 0) || false) || false)) || (false || ((decide (0 < (0 : Int) + a) || false) || false)))) := by kernel_rfl
theorem cb2_0 {a : Int} : calmB (W2 a) nxF 2 g2_0 = (!((decide ((0 : Int) < (0 : Int)) || (decide ((0 : Int) < (0 : Int)) || false)) || ((decide ((0 : Int) < (0 : Int) + a) || false) || (false || false)))) := by kernel_rfl
theorem cc2_0 {a : Int} : calmA 2 (.tuple (([a] : List Int).map .int)) g2_0 = calmB (W2 a) nxF 2 g2_0 := by
  rw [ca2_0, cb2_0, Bool.eq_iff_iff]
  simp only [Bool.not_eq_true', Bool.or_eq_false_iff, decide_eq_false_iff_not, and_true, true_and]
  all_goals (constructor <;> intro h <;> and_intros <;> first | trivial | omega)
theorem wa2_1 {a : Int} : m_worth_of [g2_1, .tuple (([a] : List Int).map .int)] = some (.int ((0 : Int) + a)) := by kernel_rfl
theorem wb2_1 {a : Int} : m__law_worth [g2_1, .tuple (([a] : List Int).map .int)] = some (.int ((0 : Int) + a * 1)) := by kernel_rfl
theorem we2_1 {a : Int} : W2 a g2_1 = (0 : Int) + a := by unfold W2; rw [wa2_1]
theorem ca2_1 {a : Int} : calmA 2 (.tuple (([a] : List Int).map .int)) g2_1 = (!(((decide ((0 : Int) + a < 0) || (decide ((0 : Int) + a < 0) || false)) || false) || (false || false))) := by kernel_rfl
theorem cb2_1 {a : Int} : calmB (W2 a) nxF 2 g2_1 = (!((decide ((0 : Int) + a < (0 : Int)) || (decide ((0 : Int) + a < (0 : Int)) || false)) || ((decide ((0 : Int) + a < (0 : Int) + a) || false) || (false || false)))) := by kernel_rfl
theorem cc2_1 {a : Int} : calmA 2 (.tuple (([a] : List Int).map .int)) g2_1 = calmB (W2 a) nxF 2 g2_1 := by
  rw [ca2_1, cb2_1, Bool.eq_iff_iff]
  simp only [Bool.not_eq_true', Bool.or_eq_false_iff, decide_eq_false_iff_not, and_true, true_and]
  all_goals (constructor <;> intro h <;> and_intros <;> first | trivial | omega)
theorem w1_2 {a : Int} : ∀ g ∈ GS2, m_worth_of [g, .tuple (([a] : List Int).map .int)] = some (.int (W2 a g)) := by
  intro g hg
  simp only [GS2, List.mem_cons, List.not_mem_nil, or_false] at hg
  rcases hg with rfl | rfl
  · rw [we2_0]; exact wa2_0
  · rw [we2_1]; exact wa2_1
theorem w2_2 {a : Int} : ∀ g ∈ GS2, m__law_worth [g, .tuple (([a] : List Int).map .int)] = some (.int (W2 a g)) := by
  intro g hg
  simp only [GS2, List.mem_cons, List.not_mem_nil, or_false] at hg
  rcases hg with rfl | rfl
  · rw [we2_0]; exact Eq.trans wb2_0 (congrArg (fun z : Int => some (PyData.int z)) (by omega))
  · rw [we2_1]; exact Eq.trans wb2_1 (congrArg (fun z : Int => some (PyData.int z)) (by omega))
theorem cAB_2 {a : Int} : ∀ g ∈ GS2, calmA 2 (.tuple (([a] : List Int).map .int)) g = calmB (W2 a) nxF 2 g := by
  intro g hg
  simp only [GS2, List.mem_cons, List.not_mem_nil, or_false] at hg
  rcases hg with rfl | rfl
  · exact cc2_0
  · exact cc2_1
theorem len2_ : ∀ {zs : List Int}, zs.length = 1 → ∃ a : Int, zs = [a]
  | [a], _ => ⟨a, rfl⟩
theorem plain2 (zs : List Int) (hl : (zs.length : Int) = (2 : Int) * (2 - 1) / 2) (hz : ∀ z ∈ zs, -7 ≤ z ∧ z ≤ 7) :
    ∃ GS : List PyData, m__law_groupings [.int 2] = some (.list GS) ∧ 0 < GS.length ∧ GS.length < 1000 ∧ ∀ g ∈ GS, ∀ m : Int, 1 ≤ m → m ≤ 2 → b_law ([.no, .no, .dat (.int 2), .no, .no, .no, .no, .dat (.tuple (zs.map .int)), .dat (.list GS), .dat g, .dat (.int m), .no, .no, .no, .no, .no, .no, .no, .no, .no, .no] : SE) = some (.rt (.dat (.bool true))) := by
  have h0 : zs.length = 1 := by omega
  obtain ⟨a, rfl⟩ := len2_ h0
  exact ⟨GS2, gl2, by decide, by decide, fun g hg m m1 m2 => Fx.law (fx_of (W := W2 a) (by decide) (by decide) chk2 hl hz w1_2 w2_2 cAB_2) hg m m1 m2⟩
end DL

/-! Pk3: the facts of size 3. -/
namespace DL
open PySem PySem.Spec PyProof.Rows L2
abbrev g3_0 : PyData := .tuple [.tuple [.int 0], .tuple [.int 1], .tuple [.int 2]]
abbrev g3_1 : PyData := .tuple [.tuple [.int 0], .tuple [.int 1, .int 2]]
abbrev g3_2 : PyData := .tuple [.tuple [.int 0, .int 1], .tuple [.int 2]]
abbrev g3_3 : PyData := .tuple [.tuple [.int 0, .int 1, .int 2]]
abbrev g3_4 : PyData := .tuple [.tuple [.int 0, .int 2], .tuple [.int 1]]
abbrev GS3 : List PyData := [g3_0, g3_1, g3_2, g3_3, g3_4]
abbrev ST3 : List PyData := [.tuple [.int 0], .tuple [.int 0, .int 1], .tuple [.int 0, .int 2], .tuple [.int 1], .tuple [.int 1, .int 2], .tuple [.int 2]]
abbrev PS3 : List PyData := [.tuple [.int 0, .int 1], .tuple [.int 0, .int 2], .tuple [.int 1, .int 2]]
theorem gl3 : m__law_groupings [.int 3] = some (.list GS3) := sameO_eq (by decide +kernel)
theorem chk3 : chk 3 GS3 ST3 PS3 false 2 = true := by decide +kernel
def W3 (a b c : Int) (g : PyData) : Int := match m_worth_of [g, .tuple (([a, b, c] : List Int).map .int)] with
  | some (.int i) => i
  | _ => 0
theorem wa3_0 {a b c : Int} : m_worth_of [g3_0, .tuple (([a, b, c] : List Int).map .int)] = some (.int ((0 : Int))) := by kernel_rfl
theorem wb3_0 {a b c : Int} : m__law_worth [g3_0, .tuple (([a, b, c] : List Int).map .int)] = some (.int ((0 : Int) + a * 0 + b * 0 + c * 0)) := by kernel_rfl
theorem we3_0 {a b c : Int} : W3 a b c g3_0 = (0 : Int) := by unfold W3; rw [wa3_0]
theorem ca3_0 {a b c : Int} : calmA 3 (.tuple (([a, b, c] : List Int).map .int)) g3_0 = (!(((decide ((0 : Int) < 0) || false) || ((decide ((0 : Int) < 0) || false) || ((decide ((0 : Int) < 0) || false) || false))) || (false || ((decide (0 < (0 : Int) + a) || false) || ((decide (0 < (0 : Int) + b) || (decide (0 < (0 : Int) + c) || false)) || false))))) := by kernel_rfl
theorem cb3_0 {a b c : Int} : calmB (W3 a b c) nxF 3 g3_0 = (!((decide ((0 : Int) < (0 : Int)) || (decide ((0 : Int) < (0 : Int)) || (decide ((0 : Int) < (0 : Int)) || false))) || ((decide ((0 : Int) < (0 : Int) + a) || (decide ((0 : Int) < (0 : Int) + b) || false)) || ((decide ((0 : Int) < (0 : Int) + c) || false) || (false || false))))) := by kernel_rfl
theorem cc3_0 {a b c : Int} : calmA 3 (.tuple (([a, b, c] : List Int).map .int)) g3_0 = calmB (W3 a b c) nxF 3 g3_0 := by
  rw [ca3_0, cb3_0, Bool.eq_iff_iff]
  simp only [Bool.not_eq_true', Bool.or_eq_false_iff, decide_eq_false_iff_not, and_true, true_and]
  all_goals (constructor <;> intro h <;> and_intros <;> first | trivial | omega)
theorem wa3_1 {a b c : Int} : m_worth_of [g3_1, .tuple (([a, b, c] : List Int).map .int)] = some (.int ((0 : Int) + c)) := by kernel_rfl
theorem wb3_1 {a b c : Int} : m__law_worth [g3_1, .tuple (([a, b, c] : List Int).map .int)] = some (.int ((0 : Int) + a * 0 + b * 0 + c * 1)) := by kernel_rfl
theorem we3_1 {a b c : Int} : W3 a b c g3_1 = (0 : Int) + c := by unfold W3; rw [wa3_1]
theorem ca3_1 {a b c : Int} : calmA 3 (.tuple (([a, b, c] : List Int).map .int)) g3_1 = (!(((decide ((0 : Int) < 0) || false) || ((decide ((0 : Int) + c < 0) || (decide ((0 : Int) + c < 0) || false)) || false)) || (false || ((decide (0 < (0 : Int) + a + b) || false) || false)))) := by kernel_rfl
theorem cb3_1 {a b c : Int} : calmB (W3 a b c) nxF 3 g3_1 = (!((decide ((0 : Int) + c < (0 : Int) + c) || (decide ((0 : Int) + c < (0 : Int)) || (decide ((0 : Int) + c < (0 : Int)) || false))) || ((decide ((0 : Int) + c < (0 : Int) + a + b + c) || (decide ((0 : Int) + c < (0 : Int) + a + b + c) || false)) || ((decide ((0 : Int) + c < (0 : Int) + c) || false) || (false || false))))) := by kernel_rfl
theorem cc3_1 {a b c : Int} : calmA 3 (.tuple (([a, b, c] : List Int).map .int)) g3_1 = calmB (W3 a b c) nxF 3 g3_1 := by
  rw [ca3_1, cb3_1, Bool.eq_iff_iff]
  simp only [Bool.not_eq_true', Bool.or_eq_false_iff, decide_eq_false_iff_not, and_true, true_and]
  all_goals (constructor <;> intro h <;> and_intros <;> first | trivial | omega)
theorem wa3_2 {a b c : Int} : m_worth_of [g3_2, .tuple (([a, b, c] : List Int).map .int)] = some (.int ((0 : Int) + a)) := by kernel_rfl
theorem wb3_2 {a b c : Int} : m__law_worth [g3_2, .tuple (([a, b, c] : List Int).map .int)] = some (.int ((0 : Int) + a * 1 + b * 0 + c * 0)) := by kernel_rfl
theorem we3_2 {a b c : Int} : W3 a b c g3_2 = (0 : Int) + a := by unfold W3; rw [wa3_2]
theorem ca3_2 {a b c : Int} : calmA 3 (.tuple (([a, b, c] : List Int).map .int)) g3_2 = (!(((decide ((0 : Int) + a < 0) || (decide ((0 : Int) + a < 0) || false)) || ((decide ((0 : Int) < 0) || false) || false)) || (false || ((decide (0 < (0 : Int) + b + c) || false) || false)))) := by kernel_rfl
theorem cb3_2 {a b c : Int} : calmB (W3 a b c) nxF 3 g3_2 = (!((decide ((0 : Int) + a < (0 : Int)) || (decide ((0 : Int) + a < (0 : Int)) || (decide ((0 : Int) + a < (0 : Int) + a) || false))) || ((decide ((0 : Int) + a < (0 : Int) + a) || (decide ((0 : Int) + a < (0 : Int) + a + b + c) || false)) || ((decide ((0 : Int) + a < (0 : Int) + a + b + c) || false) || (false || false))))) := by kernel_rfl
theorem cc3_2 {a b c : Int} : calmA 3 (.tuple (([a, b, c] : List Int).map .int)) g3_2 = calmB (W3 a b c) nxF 3 g3_2 := by
  rw [ca3_2, cb3_2, Bool.eq_iff_iff]
  simp only [Bool.not_eq_true', Bool.or_eq_false_iff, decide_eq_false_iff_not, and_true, true_and]
  all_goals (constructor <;> intro h <;> and_intros <;> first | trivial | omega)
theorem wa3_3 {a b c : Int} : m_worth_of [g3_3, .tuple (([a, b, c] : List Int).map .int)] = some (.int ((0 : Int) + a + b + c)) := by kernel_rfl
theorem wb3_3 {a b c : Int} : m__law_worth [g3_3, .tuple (([a, b, c] : List Int).map .int)] = some (.int ((0 : Int) + a * 1 + b * 1 + c * 1)) := by kernel_rfl
theorem we3_3 {a b c : Int} : W3 a b c g3_3 = (0 : Int) + a + b + c := by unfold W3; rw [wa3_3]
theorem ca3_3 {a b c : Int} : calmA 3 (.tuple (([a, b, c] : List Int).map .int)) g3_3 = (!(((decide ((0 : Int) + a + b < 0) || (decide ((0 : Int) + a + c < 0) || (decide ((0 : Int) + b + c < 0) || false))) || false) || (false || false))) := by kernel_rfl
theorem cb3_3 {a b c : Int} : calmB (W3 a b c) nxF 3 g3_3 = (!((decide ((0 : Int) + a + b + c < (0 : Int) + c) || (decide ((0 : Int) + a + b + c < (0 : Int) + b) || (decide ((0 : Int) + a + b + c < (0 : Int) + a) || false))) || ((decide ((0 : Int) + a + b + c < (0 : Int) + a + b + c) || (decide ((0 : Int) + a + b + c < (0 : Int) + a + b + c) || false)) || ((decide ((0 : Int) + a + b + c < (0 : Int) + a + b + c) || false) || (false || false))))) := by kernel_rfl
theorem cc3_3 {a b c : Int} : calmA 3 (.tuple (([a, b, c] : List Int).map .int)) g3_3 = calmB (W3 a b c) nxF 3 g3_3 := by
  rw [ca3_3, cb3_3, Bool.eq_iff_iff]
  simp only [Bool.not_eq_true', Bool.or_eq_false_iff, decide_eq_false_iff_not, and_true, true_and]
  all_goals (constructor <;> intro h <;> and_intros <;> first | trivial | omega)
theorem wa3_4 {a b c : Int} : m_worth_of [g3_4, .tuple (([a, b, c] : List Int).map .int)] = some (.int ((0 : Int) + b)) := by kernel_rfl
theorem wb3_4 {a b c : Int} : m__law_worth [g3_4, .tuple (([a, b, c] : List Int).map .int)] = some (.int ((0 : Int) + a * 0 + b * 1 + c * 0)) := by kernel_rfl
theorem we3_4 {a b c : Int} : W3 a b c g3_4 = (0 : Int) + b := by unfold W3; rw [wa3_4]
theorem ca3_4 {a b c : Int} : calmA 3 (.tuple (([a, b, c] : List Int).map .int)) g3_4 = (!(((decide ((0 : Int) + b < 0) || (decide ((0 : Int) + b < 0) || false)) || ((decide ((0 : Int) < 0) || false) || false)) || (false || ((decide (0 < (0 : Int) + a + c) || false) || false)))) := by kernel_rfl
theorem cb3_4 {a b c : Int} : calmB (W3 a b c) nxF 3 g3_4 = (!((decide ((0 : Int) + b < (0 : Int)) || (decide ((0 : Int) + b < (0 : Int) + b) || (decide ((0 : Int) + b < (0 : Int)) || false))) || ((decide ((0 : Int) + b < (0 : Int) + a + b + c) || (decide ((0 : Int) + b < (0 : Int) + b) || false)) || ((decide ((0 : Int) + b < (0 : Int) + a + b + c) || false) || (false || false))))) := by kernel_rfl
theorem cc3_4 {a b c : Int} : calmA 3 (.tuple (([a, b, c] : List Int).map .int)) g3_4 = calmB (W3 a b c) nxF 3 g3_4 := by
  rw [ca3_4, cb3_4, Bool.eq_iff_iff]
  simp only [Bool.not_eq_true', Bool.or_eq_false_iff, decide_eq_false_iff_not, and_true, true_and]
  all_goals (constructor <;> intro h <;> and_intros <;> first | trivial | omega)
theorem w1_3 {a b c : Int} : ∀ g ∈ GS3, m_worth_of [g, .tuple (([a, b, c] : List Int).map .int)] = some (.int (W3 a b c g)) := by
  intro g hg
  simp only [GS3, List.mem_cons, List.not_mem_nil, or_false] at hg
  rcases hg with rfl | rfl | rfl | rfl | rfl
  · rw [we3_0]; exact wa3_0
  · rw [we3_1]; exact wa3_1
  · rw [we3_2]; exact wa3_2
  · rw [we3_3]; exact wa3_3
  · rw [we3_4]; exact wa3_4
theorem w2_3 {a b c : Int} : ∀ g ∈ GS3, m__law_worth [g, .tuple (([a, b, c] : List Int).map .int)] = some (.int (W3 a b c g)) := by
  intro g hg
  simp only [GS3, List.mem_cons, List.not_mem_nil, or_false] at hg
  rcases hg with rfl | rfl | rfl | rfl | rfl
  · rw [we3_0]; exact Eq.trans wb3_0 (congrArg (fun z : Int => some (PyData.int z)) (by omega))
  · rw [we3_1]; exact Eq.trans wb3_1 (congrArg (fun z : Int => some (PyData.int z)) (by omega))
  · rw [we3_2]; exact Eq.trans wb3_2 (congrArg (fun z : Int => some (PyData.int z)) (by omega))
  · rw [we3_3]; exact Eq.trans wb3_3 (congrArg (fun z : Int => some (PyData.int z)) (by omega))
  · rw [we3_4]; exact Eq.trans wb3_4 (congrArg (fun z : Int => some (PyData.int z)) (by omega))
theorem cAB_3 {a b c : Int} : ∀ g ∈ GS3, calmA 3 (.tuple (([a, b, c] : List Int).map .int)) g = calmB (W3 a b c) nxF 3 g := by
  intro g hg
  simp only [GS3, List.mem_cons, List.not_mem_nil, or_false] at hg
  rcases hg with rfl | rfl | rfl | rfl | rfl
  · exact cc3_0
  · exact cc3_1
  · exact cc3_2
  · exact cc3_3
  · exact cc3_4
theorem len3_ : ∀ {zs : List Int}, zs.length = 3 → ∃ a b c : Int, zs = [a, b, c]
  | [a, b, c], _ => ⟨a, b, c, rfl⟩
theorem plain3 (zs : List Int) (hl : (zs.length : Int) = (3 : Int) * (3 - 1) / 2) (hz : ∀ z ∈ zs, -7 ≤ z ∧ z ≤ 7) :
    ∃ GS : List PyData, m__law_groupings [.int 3] = some (.list GS) ∧ 0 < GS.length ∧ GS.length < 1000 ∧ ∀ g ∈ GS, ∀ m : Int, 1 ≤ m → m ≤ 3 → b_law ([.no, .no, .dat (.int 3), .no, .no, .no, .no, .dat (.tuple (zs.map .int)), .dat (.list GS), .dat g, .dat (.int m), .no, .no, .no, .no, .no, .no, .no, .no, .no, .no] : SE) = some (.rt (.dat (.bool true))) := by
  have h0 : zs.length = 3 := by omega
  obtain ⟨a, b, c, rfl⟩ := len3_ h0
  exact ⟨GS3, gl3, by decide, by decide, fun g hg m m1 m2 => Fx.law (fx_of (W := W3 a b c) (by decide) (by decide) chk3 hl hz w1_3 w2_3 cAB_3) hg m m1 m2⟩
end DL

/-! Pk4: the facts of size 4. -/
namespace DL
open PySem PySem.Spec PyProof.Rows L2
abbrev g4_0 : PyData := .tuple [.tuple [.int 0], .tuple [.int 1], .tuple [.int 2], .tuple [.int 3]]
abbrev g4_1 : PyData := .tuple [.tuple [.int 0], .tuple [.int 1], .tuple [.int 2, .int 3]]
abbrev g4_2 : PyData := .tuple [.tuple [.int 0], .tuple [.int 1, .int 2], .tuple [.int 3]]
abbrev g4_3 : PyData := .tuple [.tuple [.int 0], .tuple [.int 1, .int 2, .int 3]]
abbrev g4_4 : PyData := .tuple [.tuple [.int 0], .tuple [.int 1, .int 3], .tuple [.int 2]]
abbrev g4_5 : PyData := .tuple [.tuple [.int 0, .int 1], .tuple [.int 2], .tuple [.int 3]]
abbrev g4_6 : PyData := .tuple [.tuple [.int 0, .int 1], .tuple [.int 2, .int 3]]
abbrev g4_7 : PyData := .tuple [.tuple [.int 0, .int 1, .int 2], .tuple [.int 3]]
abbrev g4_8 : PyData := .tuple [.tuple [.int 0, .int 1, .int 2, .int 3]]
abbrev g4_9 : PyData := .tuple [.tuple [.int 0, .int 1, .int 3], .tuple [.int 2]]
abbrev g4_10 : PyData := .tuple [.tuple [.int 0, .int 2], .tuple [.int 1], .tuple [.int 3]]
abbrev g4_11 : PyData := .tuple [.tuple [.int 0, .int 2], .tuple [.int 1, .int 3]]
abbrev g4_12 : PyData := .tuple [.tuple [.int 0, .int 2, .int 3], .tuple [.int 1]]
abbrev g4_13 : PyData := .tuple [.tuple [.int 0, .int 3], .tuple [.int 1], .tuple [.int 2]]
abbrev g4_14 : PyData := .tuple [.tuple [.int 0, .int 3], .tuple [.int 1, .int 2]]
abbrev GS4 : List PyData := [g4_0, g4_1, g4_2, g4_3, g4_4, g4_5, g4_6, g4_7, g4_8, g4_9, g4_10, g4_11, g4_12, g4_13, g4_14]
abbrev ST4 : List PyData := [.tuple [.int 0], .tuple [.int 0, .int 1], .tuple [.int 0, .int 2], .tuple [.int 0, .int 3], .tuple [.int 1], .tuple [.int 1, .int 2], .tuple [.int 1, .int 3], .tuple [.int 2], .tuple [.int 2, .int 3], .tuple [.int 3]]
abbrev PS4 : List PyData := [.tuple [.int 0, .int 1], .tuple [.int 0, .int 2], .tuple [.int 0, .int 3], .tuple [.int 1, .int 2], .tuple [.int 1, .int 3], .tuple [.int 2, .int 3]]
theorem gl4 : m__law_groupings [.int 4] = some (.list GS4) := sameO_eq (by decide +kernel)
theorem chk4 : chk 4 GS4 ST4 PS4 false 2 = true := by decide +kernel
def W4 (a b c d e f : Int) (g : PyData) : Int := match m_worth_of [g, .tuple (([a, b, c, d, e, f] : List Int).map .int)] with
  | some (.int i) => i
  | _ => 0
theorem wa4_0 {a b c d e f : Int} : m_worth_of [g4_0, .tuple (([a, b, c, d, e, f] : List Int).map .int)] = some (.int ((0 : Int))) := by kernel_rfl
theorem wb4_0 {a b c d e f : Int} : m__law_worth [g4_0, .tuple (([a, b, c, d, e, f] : List Int).map .int)] = some (.int ((0 : Int) + a * 0 + b * 0 + c * 0 + d * 0 + e * 0 + f * 0)) := by kernel_rfl
theorem we4_0 {a b c d e f : Int} : W4 a b c d e f g4_0 = (0 : Int) := by unfold W4; rw [wa4_0]
theorem ca4_0 {a b c d e f : Int} : calmA 4 (.tuple (([a, b, c, d, e, f] : List Int).map .int)) g4_0 = (!(((decide ((0 : Int) < 0) || false) || ((decide ((0 : Int) < 0) || false) || ((decide ((0 : Int) < 0) || false) || ((decide ((0 : Int) < 0) || false) || false)))) || (false || ((decide (0 < (0 : Int) + a) || false) || ((decide (0 < (0 : Int) + b) || (decide (0 < (0 : Int) + d) || false)) || ((decide (0 < (0 : Int) + c) || (decide (0 < (0 : Int) + e) || (decide (0 < (0 : Int) + f) || false))) || false)))))) := by kernel_rfl
theorem cb4_0 {a b c d e f : Int} : calmB (W4 a b c d e f) nxF 4 g4_0 = (!((decide ((0 : Int) < (0 : Int)) || (decide ((0 : Int) < (0 : Int)) || (decide ((0 : Int) < (0 : Int)) || (decide ((0 : Int) < (0 : Int)) || false)))) || ((decide ((0 : Int) < (0 : Int) + a) || (decide ((0 : Int) < (0 : Int) + b) || (decide ((0 : Int) < (0 : Int) + c) || false))) || ((decide ((0 : Int) < (0 : Int) + d) || (decide ((0 : Int) < (0 : Int) + e) || false)) || ((decide ((0 : Int) < (0 : Int) + f) || false) || (false || false)))))) := by kernel_rfl
theorem cc4_0 {a b c d e f : Int} : calmA 4 (.tuple (([a, b, c, d, e, f] : List Int).map .int)) g4_0 = calmB (W4 a b c d e f) nxF 4 g4_0 := by
  rw [ca4_0, cb4_0, Bool.eq_iff_iff]
  simp only [Bool.not_eq_true', Bool.or_eq_false_iff, decide_eq_false_iff_not, and_true, true_and]
  all_goals (constructor <;> intro h <;> and_intros <;> first | trivial | omega)
theorem wa4_1 {a b c d e f : Int} : m_worth_of [g4_1, .tuple (([a, b, c, d, e, f] : List Int).map .int)] = some (.int ((0 : Int) + f)) := by kernel_rfl
theorem wb4_1 {a b c d e f : Int} : m__law_worth [g4_1, .tuple (([a, b, c, d, e, f] : List Int).map .int)] = some (.int ((0 : Int) + a * 0 + b * 0 + c * 0 + d * 0 + e * 0 + f * 1)) := by kernel_rfl
theorem we4_1 {a b c d e f : Int} : W4 a b c d e f g4_1 = (0 : Int) + f := by unfold W4; rw [wa4_1]
theorem ca4_1 {a b c d e f : Int} : calmA 4 (.tuple (([a, b, c, d, e, f] : List Int).map .int)) g4_1 = (!(((decide ((0 : Int) < 0) || false) || ((decide ((0 : Int) < 0) || false) || ((decide ((0 : Int) + f < 0) || (decide ((0 : Int) + f < 0) || false)) || false))) || (false || ((decide (0 < (0 : Int) + a) || false) || ((decide (0 < (0 : Int) + b + c) || (decide (0 < (0 : Int) + d + e) || false)) || false))))) := by kernel_rfl
theorem cb4_1 {a b c d e f : Int} : calmB (W4 a b c d e f) nxF 4 g4_1 = (!((decide ((0 : Int) + f < (0 : Int) + f) || (decide ((0 : Int) + f < (0 : Int) + f) || (decide ((0 : Int) + f < (0 : Int)) || (decide ((0 : Int) + f < (0 : Int)) || false)))) || ((decide ((0 : Int) + f < (0 : Int) + a + f) || (decide ((0 : Int) + f < (0 : Int) + b + c + f) || (decide ((0 : Int) + f < (0 : Int) + b + c + f) || false))) || ((decide ((0 : Int) + f < (0 : Int) + d + e + f) || (decide ((0 : Int) + f < (0 : Int) + d + e + f) || false)) || ((decide ((0 : Int) + f < (0 : Int) + f) || false) || (false || false)))))) := by kernel_rfl
theorem cc4_1 {a b c d e f : Int} : calmA 4 (.tuple (([a, b, c, d, e, f] : List Int).map .int)) g4_1 = calmB (W4 a b c d e f) nxF 4 g4_1 := by
  rw [ca4_1, cb4_1, Bool.eq_iff_iff]
  simp only [Bool.not_eq_true', Bool.or_eq_false_iff, decide_eq_false_iff_not, and_true, true_and]
  all_goals (constructor <;> intro h <;> and_intros <;> first | trivial | omega)
theorem wa4_2 {a b c d e f : Int} : m_worth_of [g4_2, .tuple (([a, b, c, d, e, f] : List Int).map .int)] = some (.int ((0 : Int) + d)) := by kernel_rfl
theorem wb4_2 {a b c d e f : Int} : m__law_worth [g4_2, .tuple (([a, b, c, d, e, f] : List Int).map .int)] = some (.int ((0 : Int) + a * 0 + b * 0 + c * 0 + d * 1 + e * 0 + f * 0)) := by kernel_rfl
theorem we4_2 {a b c d e f : Int} : W4 a b c d e f g4_2 = (0 : Int) + d := by unfold W4; rw [wa4_2]
theorem ca4_2 {a b c d e f : Int} : calmA 4 (.tuple (([a, b, c, d, e, f] : List Int).map .int)) g4_2 = (!(((decide ((0 : Int) < 0) || false) || ((decide ((0 : Int) + d < 0) || (decide ((0 : Int) + d < 0) || false)) || ((decide ((0 : Int) < 0) || false) || false))) || (false || ((decide (0 < (0 : Int) + a + b) || false) || ((decide (0 < (0 : Int) + c) || (decide (0 < (0 : Int) + e + f) || false)) || false))))) := by kernel_rfl
theorem cb4_2 {a b c d e f : Int} : calmB (W4 a b c d e f) nxF 4 g4_2 = (!((decide ((0 : Int) + d < (0 : Int) + d) || (decide ((0 : Int) + d < (0 : Int)) || (decide ((0 : Int) + d < (0 : Int)) || (decide ((0 : Int) + d < (0 : Int) + d) || false)))) || ((decide ((0 : Int) + d < (0 : Int) + a + b + d) || (decide ((0 : Int) + d < (0 : Int) + a + b + d) || (decide ((0 : Int) + d < (0 : Int) + c + d) || false))) || ((decide ((0 : Int) + d < (0 : Int) + d) || (decide ((0 : Int) + d < (0 : Int) + d + e + f) || false)) || ((decide ((0 : Int) + d < (0 : Int) + d + e + f) || false) || (false || false)))))) := by kernel_rfl
theorem cc4_2 {a b c d e f : Int} : calmA 4 (.tuple (([a, b, c, d, e, f] : List Int).map .int)) g4_2 = calmB (W4 a b c d e f) nxF 4 g4_2 := by
  rw [ca4_2, cb4_2, Bool.eq_iff_iff]
  simp only [Bool.not_eq_true', Bool.or_eq_false_iff, decide_eq_false_iff_not, and_true, true_and]
  all_goals (constructor <;> intro h <;> and_intros <;> first | trivial | omega)
theorem wa4_3 {a b c d e f : Int} : m_worth_of [g4_3, .tuple (([a, b, c, d, e, f] : List Int).map .int)] = some (.int ((0 : Int) + d + e + f)) := by kernel_rfl
theorem wb4_3 {a b c d e f : Int} : m__law_worth [g4_3, .tuple (([a, b, c, d, e, f] : List Int).map .int)] = some (.int ((0 : Int) + a * 0 + b * 0 + c * 0 + d * 1 + e * 1 + f * 1)) := by kernel_rfl
theorem we4_3 {a b c d e f : Int} : W4 a b c d e f g4_3 = (0 : Int) + d + e + f := by unfold W4; rw [wa4_3]
theorem ca4_3 {a b c d e f : Int} : calmA 4 (.tuple (([a, b, c, d, e, f] : List Int).map .int)) g4_3 = (!(((decide ((0 : Int) < 0) || false) || ((decide ((0 : Int) + d + e < 0) || (decide ((0 : Int) + d + f < 0) || (decide ((0 : Int) + e + f < 0) || false))) || false)) || (false || ((decide (0 < (0 : Int) + a + b + c) || false) || false)))) := by kernel_rfl
theorem cb4_3 {a b c d e f : Int} : calmB (W4 a b c d e f) nxF 4 g4_3 = (!((decide ((0 : Int) + d + e + f < (0 : Int) + d + e + f) || (decide ((0 : Int) + d + e + f < (0 : Int) + f) || (decide ((0 : Int) + d + e + f < (0 : Int) + e) || (decide ((0 : Int) + d + e + f < (0 : Int) + d) || false)))) || ((decide ((0 : Int) + d + e + f < (0 : Int) + a + b + c + d + e + f) || (decide ((0 : Int) + d + e + f < (0 : Int) + a + b + c + d + e + f) || (decide ((0 : Int) + d + e + f < (0 : Int) + a + b + c + d + e + f) || false))) || ((decide ((0 : Int) + d + e + f < (0 : Int) + d + e + f) || (decide ((0 : Int) + d + e + f < (0 : Int) + d + e + f) || false)) || ((decide ((0 : Int) + d + e + f < (0 : Int) + d + e + f) || false) || (false || false)))))) := by kernel_rfl
theorem cc4_3 {a b c d e f : Int} : calmA 4 (.tuple (([a, b, c, d, e, f] : List Int).map .int)) g4_3 = calmB (W4 a b c d e f) nxF 4 g4_3 := by
  rw [ca4_3, cb4_3, Bool.eq_iff_iff]
  simp only [Bool.not_eq_true', Bool.or_eq_false_iff, decide_eq_false_iff_not, and_true, true_and]
  all_goals (constructor <;> intro h <;> and_intros <;> first | trivial | omega)
theorem wa4_4 {a b c d e f : Int} : m_worth_of [g4_4, .tuple (([a, b, c, d, e, f] : List Int).map .int)] = some (.int ((0 : Int) + e)) := by kernel_rfl
theorem wb4_4 {a b c d e f : Int} : m__law_worth [g4_4, .tuple (([a, b, c, d, e, f] : List Int).map .int)] = some (.int ((0 : Int) + a * 0 + b * 0 + c * 0 + d * 0 + e * 1 + f * 0)) := by kernel_rfl
theorem we4_4 {a b c d e f : Int} : W4 a b c d e f g4_4 = (0 : Int) + e := by unfold W4; rw [wa4_4]
theorem ca4_4 {a b c d e f : Int} : calmA 4 (.tuple (([a, b, c, d, e, f] : List Int).map .int)) g4_4 = (!(((decide ((0 : Int) < 0) || false) || ((decide ((0 : Int) + e < 0) || (decide ((0 : Int) + e < 0) || false)) || ((decide ((0 : Int) < 0) || false) || false))) || (false || ((decide (0 < (0 : Int) + a + c) || false) || ((decide (0 < (0 : Int) + b) || (decide (0 < (0 : Int) + d + f) || false)) || false))))) := by kernel_rfl
theorem cb4_4 {a b c d e f : Int} : calmB (W4 a b c d e f) nxF 4 g4_4 = (!((decide ((0 : Int) + e < (0 : Int) + e) || (decide ((0 : Int) + e < (0 : Int)) || (decide ((0 : Int) + e < (0 : Int) + e) || (decide ((0 : Int) + e < (0 : Int)) || false)))) || ((decide ((0 : Int) + e < (0 : Int) + a + c + e) || (decide ((0 : Int) + e < (0 : Int) + b + e) || (decide ((0 : Int) + e < (0 : Int) + a + c + e) || false))) || ((decide ((0 : Int) + e < (0 : Int) + d + e + f) || (decide ((0 : Int) + e < (0 : Int) + e) || false)) || ((decide ((0 : Int) + e < (0 : Int) + d + e + f) || false) || (false || false)))))) := by kernel_rfl
theorem cc4_4 {a b c d e f : Int} : calmA 4 (.tuple (([a, b, c, d, e, f] : List Int).map .int)) g4_4 = calmB (W4 a b c d e f) nxF 4 g4_4 := by
  rw [ca4_4, cb4_4, Bool.eq_iff_iff]
  simp only [Bool.not_eq_true', Bool.or_eq_false_iff, decide_eq_false_iff_not, and_true, true_and]
  all_goals (constructor <;> intro h <;> and_intros <;> first | trivial | omega)
theorem wa4_5 {a b c d e f : Int} : m_worth_of [g4_5, .tuple (([a, b, c, d, e, f] : List Int).map .int)] = some (.int ((0 : Int) + a)) := by kernel_rfl
theorem wb4_5 {a b c d e f : Int} : m__law_worth [g4_5, .tuple (([a, b, c, d, e, f] : List Int).map .int)] = some (.int ((0 : Int) + a * 1 + b * 0 + c * 0 + d * 0 + e * 0 + f * 0)) := by kernel_rfl
theorem we4_5 {a b c d e f : Int} : W4 a b c d e f g4_5 = (0 : Int) + a := by unfold W4; rw [wa4_5]
theorem ca4_5 {a b c d e f : Int} : calmA 4 (.tuple (([a, b, c, d, e, f] : List Int).map .int)) g4_5 = (!(((decide ((0 : Int) + a < 0) || (decide ((0 : Int) + a < 0) || false)) || ((decide ((0 : Int) < 0) || false) || ((decide ((0 : Int) < 0) || false) || false))) || (false || ((decide (0 < (0 : Int) + b + d) || false) || ((decide (0 < (0 : Int) + c + e) || (decide (0 < (0 : Int) + f) || false)) || false))))) := by kernel_rfl
theorem cb4_5 {a b c d e f : Int} : calmB (W4 a b c d e f) nxF 4 g4_5 = (!((decide ((0 : Int) + a < (0 : Int)) || (decide ((0 : Int) + a < (0 : Int)) || (decide ((0 : Int) + a < (0 : Int) + a) || (decide ((0 : Int) + a < (0 : Int) + a) || false)))) || ((decide ((0 : Int) + a < (0 : Int) + a) || (decide ((0 : Int) + a < (0 : Int) + a + b + d) || (decide ((0 : Int) + a < (0 : Int) + a + c + e) || false))) || ((decide ((0 : Int) + a < (0 : Int) + a + b + d) || (decide ((0 : Int) + a < (0 : Int) + a + c + e) || false)) || ((decide ((0 : Int) + a < (0 : Int) + a + f) || false) || (false || false)))))) := by kernel_rfl
theorem cc4_5 {a b c d e f : Int} : calmA 4 (.tuple (([a, b, c, d, e, f] : List Int).map .int)) g4_5 = calmB (W4 a b c d e f) nxF 4 g4_5 := by
  rw [ca4_5, cb4_5, Bool.eq_iff_iff]
  simp only [Bool.not_eq_true', Bool.or_eq_false_iff, decide_eq_false_iff_not, and_true, true_and]
  all_goals (constructor <;> intro h <;> and_intros <;> first | trivial | omega)
theorem wa4_6 {a b c d e f : Int} : m_worth_of [g4_6, .tuple (([a, b, c, d, e, f] : List Int).map .int)] = some (.int ((0 : Int) + a + f)) := by kernel_rfl
theorem wb4_6 {a b c d e f : Int} : m__law_worth [g4_6, .tuple (([a, b, c, d, e, f] : List Int).map .int)] = some (.int ((0 : Int) + a * 1 + b * 0 + c * 0 + d * 0 + e * 0 + f * 1)) := by kernel_rfl
theorem we4_6 {a b c d e f : Int} : W4 a b c d e f g4_6 = (0 : Int) + a + f := by unfold W4; rw [wa4_6]
theorem ca4_6 {a b c d e f : Int} : calmA 4 (.tuple (([a, b, c, d, e, f] : List Int).map .int)) g4_6 = (!(((decide ((0 : Int) + a < 0) || (decide ((0 : Int) + a < 0) || false)) || ((decide ((0 : Int) + f < 0) || (decide ((0 : Int) + f < 0) || false)) || false)) || (false || ((decide (0 < (0 : Int) + b + c + d + e) || false) || false)))) := by kernel_rfl
theorem cb4_6 {a b c d e f : Int} : calmB (W4 a b c d e f) nxF 4 g4_6 = (!((decide ((0 : Int) + a + f < (0 : Int) + f) || (decide ((0 : Int) + a + f < (0 : Int) + f) || (decide ((0 : Int) + a + f < (0 : Int) + a) || (decide ((0 : Int) + a + f < (0 : Int) + a) || false)))) || ((decide ((0 : Int) + a + f < (0 : Int) + a + f) || (decide ((0 : Int) + a + f < (0 : Int) + a + b + c + d + e + f) || (decide ((0 : Int) + a + f < (0 : Int) + a + b + c + d + e + f) || false))) || ((decide ((0 : Int) + a + f < (0 : Int) + a + b + c + d + e + f) || (decide ((0 : Int) + a + f < (0 : Int) + a + b + c + d + e + f) || false)) || ((decide ((0 : Int) + a + f < (0 : Int) + a + f) || false) || (false || false)))))) := by kernel_rfl
theorem cc4_6 {a b c d e f : Int} : calmA 4 (.tuple (([a, b, c, d, e, f] : List Int).map .int)) g4_6 = calmB (W4 a b c d e f) nxF 4 g4_6 := by
  rw [ca4_6, cb4_6, Bool.eq_iff_iff]
  simp only [Bool.not_eq_true', Bool.or_eq_false_iff, decide_eq_false_iff_not, and_true, true_and]
  all_goals (constructor <;> intro h <;> and_intros <;> first | trivial | omega)
theorem wa4_7 {a b c d e f : Int} : m_worth_of [g4_7, .tuple (([a, b, c, d, e, f] : List Int).map .int)] = some (.int ((0 : Int) + a + b + d)) := by kernel_rfl
theorem wb4_7 {a b c d e f : Int} : m__law_worth [g4_7, .tuple (([a, b, c, d, e, f] : List Int).map .int)] = some (.int ((0 : Int) + a * 1 + b * 1 + c * 0 + d * 1 + e * 0 + f * 0)) := by kernel_rfl
theorem we4_7 {a b c d e f : Int} : W4 a b c d e f g4_7 = (0 : Int) + a + b + d := by unfold W4; rw [wa4_7]
theorem ca4_7 {a b c d e f : Int} : calmA 4 (.tuple (([a, b, c, d, e, f] : List Int).map .int)) g4_7 = (!(((decide ((0 : Int) + a + b < 0) || (decide ((0 : Int) + a + d < 0) || (decide ((0 : Int) + b + d < 0) || false))) || ((decide ((0 : Int) < 0) || false) || false)) || (false || ((decide (0 < (0 : Int) + c + e + f) || false) || false)))) := by kernel_rfl
theorem cb4_7 {a b c d e f : Int} : calmB (W4 a b c d e f) nxF 4 g4_7 = (!((decide ((0 : Int) + a + b + d < (0 : Int) + d) || (decide ((0 : Int) + a + b + d < (0 : Int) + b) || (decide ((0 : Int) + a + b + d < (0 : Int) + a) || (decide ((0 : Int) + a + b + d < (0 : Int) + a + b + d) || false)))) || ((decide ((0 : Int) + a + b + d < (0 : Int) + a + b + d) || (decide ((0 : Int) + a + b + d < (0 : Int) + a + b + d) || (decide ((0 : Int) + a + b + d < (0 : Int) + a + b + c + d + e + f) || false))) || ((decide ((0 : Int) + a + b + d < (0 : Int) + a + b + d) || (decide ((0 : Int) + a + b + d < (0 : Int) + a + b + c + d + e + f) || false)) || ((decide ((0 : Int) + a + b + d < (0 : Int) + a + b + c + d + e + f) || false) || (false || false)))))) := by kernel_rfl
theorem cc4_7 {a b c d e f : Int} : calmA 4 (.tuple (([a, b, c, d, e, f] : List Int).map .int)) g4_7 = calmB (W4 a b c d e f) nxF 4 g4_7 := by
  rw [ca4_7, cb4_7, Bool.eq_iff_iff]
  simp only [Bool.not_eq_true', Bool.or_eq_false_iff, decide_eq_false_iff_not, and_true, true_and]
  all_goals (constructor <;> intro h <;> and_intros <;> first | trivial | omega)
theorem wa4_8 {a b c d e f : Int} : m_worth_of [g4_8, .tuple (([a, b, c, d, e, f] : List Int).map .int)] = some (.int ((0 : Int) + a + b + c + d + e + f)) := by kernel_rfl
theorem wb4_8 {a b c d e f : Int} : m__law_worth [g4_8, .tuple (([a, b, c, d, e, f] : List Int).map .int)] = some (.int ((0 : Int) + a * 1 + b * 1 + c * 1 + d * 1 + e * 1 + f * 1)) := by kernel_rfl
theorem we4_8 {a b c d e f : Int} : W4 a b c d e f g4_8 = (0 : Int) + a + b + c + d + e + f := by unfold W4; rw [wa4_8]
theorem ca4_8 {a b c d e f : Int} : calmA 4 (.tuple (([a, b, c, d, e, f] : List Int).map .int)) g4_8 = (!(((decide ((0 : Int) + a + b + c < 0) || (decide ((0 : Int) + a + d + e < 0) || (decide ((0 : Int) + b + d + f < 0) || (decide ((0 : Int) + c + e + f < 0) || false)))) || false) || (false || false))) := by kernel_rfl
theorem cb4_8 {a b c d e f : Int} : calmB (W4 a b c d e f) nxF 4 g4_8 = (!((decide ((0 : Int) + a + b + c + d + e + f < (0 : Int) + d + e + f) || (decide ((0 : Int) + a + b + c + d + e + f < (0 : Int) + b + c + f) || (decide ((0 : Int) + a + b + c + d + e + f < (0 : Int) + a + c + e) || (decide ((0 : Int) + a + b + c + d + e + f < (0 : Int) + a + b + d) || false)))) || ((decide ((0 : Int) + a + b + c + d + e + f < (0 : Int) + a + b + c + d + e + f) || (decide ((0 : Int) + a + b + c + d + e + f < (0 : Int) + a + b + c + d + e + f) || (decide ((0 : Int) + a + b + c + d + e + f < (0 : Int) + a + b + c + d + e + f) || false))) || ((decide ((0 : Int) + a + b + c + d + e + f < (0 : Int) + a + b + c + d + e + f) || (decide ((0 : Int) + a + b + c + d + e + f < (0 : Int) + a + b + c + d + e + f) || false)) || ((decide ((0 : Int) + a + b + c + d + e + f < (0 : Int) + a + b + c + d + e + f) || false) || (false || false)))))) := by kernel_rfl
theorem cc4_8 {a b c d e f : Int} : calmA 4 (.tuple (([a, b, c, d, e, f] : List Int).map .int)) g4_8 = calmB (W4 a b c d e f) nxF 4 g4_8 := by
  rw [ca4_8, cb4_8, Bool.eq_iff_iff]
  simp only [Bool.not_eq_true', Bool.or_eq_false_iff, decide_eq_false_iff_not, and_true, true_and]
  all_goals (constructor <;> intro h <;> and_intros <;> first | trivial | omega)
theorem wa4_9 {a b c d e f : Int} : m_worth_of [g4_9, .tuple (([a, b, c, d, e, f] : List Int).map .int)] = some (.int ((0 : Int) + a + c + e)) := by kernel_rfl
theorem wb4_9 {a b c d e f : Int} : m__law_worth [g4_9, .tuple (([a, b, c, d, e, f] : List Int).map .int)] = some (.int ((0 : Int) + a * 1 + b * 0 + c * 1 + d * 0 + e * 1 + f * 0)) := by kernel_rfl
theorem we4_9 {a b c d e f : Int} : W4 a b c d e f g4_9 = (0 : Int) + a + c + e := by unfold W4; rw [wa4_9]
theorem ca4_9 {a b c d e f : Int} : calmA 4 (.tuple (([a, b, c, d, e, f] : List Int).map .int)) g4_9 = (!(((decide ((0 : Int) + a + c < 0) || (decide ((0 : Int) + a + e < 0) || (decide ((0 : Int) + c + e < 0) || false))) || ((decide ((0 : Int) < 0) || false) || false)) || (false || ((decide (0 < (0 : Int) + b + d + f) || false) || false)))) := by kernel_rfl
theorem cb4_9 {a b c d e f : Int} : calmB (W4 a b c d e f) nxF 4 g4_9 = (!((decide ((0 : Int) + a + c + e < (0 : Int) + e) || (decide ((0 : Int) + a + c + e < (0 : Int) + c) || (decide ((0 : Int) + a + c + e < (0 : Int) + a + c + e) || (decide ((0 : Int) + a + c + e < (0 : Int) + a) || false)))) || ((decide ((0 : Int) + a + c + e < (0 : Int) + a + c + e) || (decide ((0 : Int) + a + c + e < (0 : Int) + a + b + c + d + e + f) || (decide ((0 : Int) + a + c + e < (0 : Int) + a + c + e) || false))) || ((decide ((0 : Int) + a + c + e < (0 : Int) + a + b + c + d + e + f) || (decide ((0 : Int) + a + c + e < (0 : Int) + a + c + e) || false)) || ((decide ((0 : Int) + a + c + e < (0 : Int) + a + b + c + d + e + f) || false) || (false || false)))))) := by kernel_rfl
theorem cc4_9 {a b c d e f : Int} : calmA 4 (.tuple (([a, b, c, d, e, f] : List Int).map .int)) g4_9 = calmB (W4 a b c d e f) nxF 4 g4_9 := by
  rw [ca4_9, cb4_9, Bool.eq_iff_iff]
  simp only [Bool.not_eq_true', Bool.or_eq_false_iff, decide_eq_false_iff_not, and_true, true_and]
  all_goals (constructor <;> intro h <;> and_intros <;> first | trivial | omega)
theorem wa4_10 {a b c d e f : Int} : m_worth_of [g4_10, .tuple (([a, b, c, d, e, f] : List Int).map .int)] = some (.int ((0 : Int) + b)) := by kernel_rfl
theorem wb4_10 {a b c d e f : Int} : m__law_worth [g4_10, .tuple (([a, b, c, d, e, f] : List Int).map .int)] = some (.int ((0 : Int) + a * 0 + b * 1 + c * 0 + d * 0 + e * 0 + f * 0)) := by kernel_rfl
theorem we4_10 {a b c d e f : Int} : W4 a b c d e f g4_10 = (0 : Int) + b := by unfold W4; rw [wa4_10]
theorem ca4_10 {a b c d e f : Int} : calmA 4 (.tuple (([a, b, c, d, e, f] : List Int).map .int)) g4_10 = (!(((decide ((0 : Int) + b < 0) || (decide ((0 : Int) + b < 0) || false)) || ((decide ((0 : Int) < 0) || false) || ((decide ((0 : Int) < 0) || false) || false))) || (false || ((decide (0 < (0 : Int) + a + d) || false) || ((decide (0 < (0 : Int) + c + f) || (decide (0 < (0 : Int) + e) || false)) || false))))) := by kernel_rfl
theorem cb4_10 {a b c d e f : Int} : calmB (W4 a b c d e f) nxF 4 g4_10 = (!((decide ((0 : Int) + b < (0 : Int)) || (decide ((0 : Int) + b < (0 : Int) + b) || (decide ((0 : Int) + b < (0 : Int)) || (decide ((0 : Int) + b < (0 : Int) + b) || false)))) || ((decide ((0 : Int) + b < (0 : Int) + a + b + d) || (decide ((0 : Int) + b < (0 : Int) + b) || (decide ((0 : Int) + b < (0 : Int) + b + c + f) || false))) || ((decide ((0 : Int) + b < (0 : Int) + a + b + d) || (decide ((0 : Int) + b < (0 : Int) + b + e) || false)) || ((decide ((0 : Int) + b < (0 : Int) + b + c + f) || false) || (false || false)))))) := by kernel_rfl
theorem cc4_10 {a b c d e f : Int} : calmA 4 (.tuple (([a, b, c, d, e, f] : List Int).map .int)) g4_10 = calmB (W4 a b c d e f) nxF 4 g4_10 := by
  rw [ca4_10, cb4_10, Bool.eq_iff_iff]
  simp only [Bool.not_eq_true', Bool.or_eq_false_iff, decide_eq_false_iff_not, and_true, true_and]
  all_goals (constructor <;> intro h <;> and_intros <;> first | trivial | omega)
theorem wa4_11 {a b c d e f : Int} : m_worth_of [g4_11, .tuple (([a, b, c, d, e, f] : List Int).map .int)] = some (.int ((0 : Int) + b + e)) := by kernel_rfl
theorem wb4_11 {a b c d e f : Int} : m__law_worth [g4_11, .tuple (([a, b, c, d, e, f] : List Int).map .int)] = some (.int ((0 : Int) + a * 0 + b * 1 + c * 0 + d * 0 + e * 1 + f * 0)) := by kernel_rfl
theorem we4_11 {a b c d e f : Int} : W4 a b c d e f g4_11 = (0 : Int) + b + e := by unfold W4; rw [wa4_11]
theorem ca4_11 {a b c d e f : Int} : calmA 4 (.tuple (([a, b, c, d, e, f] : List Int).map .int)) g4_11 = (!(((decide ((0 : Int) + b < 0) || (decide ((0 : Int) + b < 0) || false)) || ((decide ((0 : Int) + e < 0) || (decide ((0 : Int) + e < 0) || false)) || false)) || (false || ((decide (0 < (0 : Int) + a + c + d + f) || false) || false)))) := by kernel_rfl
theorem cb4_11 {a b c d e f : Int} : calmB (W4 a b c d e f) nxF 4 g4_11 = (!((decide ((0 : Int) + b + e < (0 : Int) + e) || (decide ((0 : Int) + b + e < (0 : Int) + b) || (decide ((0 : Int) + b + e < (0 : Int) + e) || (decide ((0 : Int) + b + e < (0 : Int) + b) || false)))) || ((decide ((0 : Int) + b + e < (0 : Int) + a + b + c + d + e + f) || (decide ((0 : Int) + b + e < (0 : Int) + b + e) || (decide ((0 : Int) + b + e < (0 : Int) + a + b + c + d + e + f) || false))) || ((decide ((0 : Int) + b + e < (0 : Int) + a + b + c + d + e + f) || (decide ((0 : Int) + b + e < (0 : Int) + b + e) || false)) || ((decide ((0 : Int) + b + e < (0 : Int) + a + b + c + d + e + f) || false) || (false || false)))))) := by kernel_rfl
theorem cc4_11 {a b c d e f : Int} : calmA 4 (.tuple (([a, b, c, d, e, f] : List Int).map .int)) g4_11 = calmB (W4 a b c d e f) nxF 4 g4_11 := by
  rw [ca4_11, cb4_11, Bool.eq_iff_iff]
  simp only [Bool.not_eq_true', Bool.or_eq_false_iff, decide_eq_false_iff_not, and_true, true_and]
  all_goals (constructor <;> intro h <;> and_intros <;> first | trivial | omega)
theorem wa4_12 {a b c d e f : Int} : m_worth_of [g4_12, .tuple (([a, b, c, d, e, f] : List Int).map .int)] = some (.int ((0 : Int) + b + c + f)) := by kernel_rfl
theorem wb4_12 {a b c d e f : Int} : m__law_worth [g4_12, .tuple (([a, b, c, d, e, f] : List Int).map .int)] = some (.int ((0 : Int) + a * 0 + b * 1 + c * 1 + d * 0 + e * 0 + f * 1)) := by kernel_rfl
theorem we4_12 {a b c d e f : Int} : W4 a b c d e f g4_12 = (0 : Int) + b + c + f := by unfold W4; rw [wa4_12]
theorem ca4_12 {a b c d e f : Int} : calmA 4 (.tuple (([a, b, c, d, e, f] : List Int).map .int)) g4_12 = (!(((decide ((0 : Int) + b + c < 0) || (decide ((0 : Int) + b + f < 0) || (decide ((0 : Int) + c + f < 0) || false))) || ((decide ((0 : Int) < 0) || false) || false)) || (false || ((decide (0 < (0 : Int) + a + d + e) || false) || false)))) := by kernel_rfl
theorem cb4_12 {a b c d e f : Int} : calmB (W4 a b c d e f) nxF 4 g4_12 = (!((decide ((0 : Int) + b + c + f < (0 : Int) + f) || (decide ((0 : Int) + b + c + f < (0 : Int) + b + c + f) || (decide ((0 : Int) + b + c + f < (0 : Int) + c) || (decide ((0 : Int) + b + c + f < (0 : Int) + b) || false)))) || ((decide ((0 : Int) + b + c + f < (0 : Int) + a + b + c + d + e + f) || (decide ((0 : Int) + b + c + f < (0 : Int) + b + c + f) || (decide ((0 : Int) + b + c + f < (0 : Int) + b + c + f) || false))) || ((decide ((0 : Int) + b + c + f < (0 : Int) + a + b + c + d + e + f) || (decide ((0 : Int) + b + c + f < (0 : Int) + a + b + c + d + e + f) || false)) || ((decide ((0 : Int) + b + c + f < (0 : Int) + b + c + f) || false) || (false || false)))))) := by kernel_rfl
theorem cc4_12 {a b c d e f : Int} : calmA 4 (.tuple (([a, b, c, d, e, f] : List Int).map .int)) g4_12 = calmB (W4 a b c d e f) nxF 4 g4_12 := by
  rw [ca4_12, cb4_12, Bool.eq_iff_iff]
  simp only [Bool.not_eq_true', Bool.or_eq_false_iff, decide_eq_false_iff_not, and_true, true_and]
  all_goals (constructor <;> intro h <;> and_intros <;> first | trivial | omega)
theorem wa4_13 {a b c d e f : Int} : m_worth_of [g4_13, .tuple (([a, b, c, d, e, f] : List Int).map .int)] = some (.int ((0 : Int) + c)) := by kernel_rfl
theorem wb4_13 {a b c d e f : Int} : m__law_worth [g4_13, .tuple (([a, b, c, d, e, f] : List Int).map .int)] = some (.int ((0 : Int) + a * 0 + b * 0 + c * 1 + d * 0 + e * 0 + f * 0)) := by kernel_rfl
theorem we4_13 {a b c d e f : Int} : W4 a b c d e f g4_13 = (0 : Int) + c := by unfold W4; rw [wa4_13]
theorem ca4_13 {a b c d e f : Int} : calmA 4 (.tuple (([a, b, c, d, e, f] : List Int).map .int)) g4_13 = (!(((decide ((0 : Int) + c < 0) || (decide ((0 : Int) + c < 0) || false)) || ((decide ((0 : Int) < 0) || false) || ((decide ((0 : Int) < 0) || false) || false))) || (false || ((decide (0 < (0 : Int) + a + e) || false) || ((decide (0 < (0 : Int) + b + f) || (decide (0 < (0 : Int) + d) || false)) || false))))) := by kernel_rfl
theorem cb4_13 {a b c d e f : Int} : calmB (W4 a b c d e f) nxF 4 g4_13 = (!((decide ((0 : Int) + c < (0 : Int)) || (decide ((0 : Int) + c < (0 : Int) + c) || (decide ((0 : Int) + c < (0 : Int) + c) || (decide ((0 : Int) + c < (0 : Int)) || false)))) || ((decide ((0 : Int) + c < (0 : Int) + a + c + e) || (decide ((0 : Int) + c < (0 : Int) + b + c + f) || (decide ((0 : Int) + c < (0 : Int) + c) || false))) || ((decide ((0 : Int) + c < (0 : Int) + c + d) || (decide ((0 : Int) + c < (0 : Int) + a + c + e) || false)) || ((decide ((0 : Int) + c < (0 : Int) + b + c + f) || false) || (false || false)))))) := by kernel_rfl
theorem cc4_13 {a b c d e f : Int} : calmA 4 (.tuple (([a, b, c, d, e, f] : List Int).map .int)) g4_13 = calmB (W4 a b c d e f) nxF 4 g4_13 := by
  rw [ca4_13, cb4_13, Bool.eq_iff_iff]
  simp only [Bool.not_eq_true', Bool.or_eq_false_iff, decide_eq_false_iff_not, and_true, true_and]
  all_goals (constructor <;> intro h <;> and_intros <;> first | trivial | omega)
theorem wa4_14 {a b c d e f : Int} : m_worth_of [g4_14, .tuple (([a, b, c, d, e, f] : List Int).map .int)] = some (.int ((0 : Int) + c + d)) := by kernel_rfl
theorem wb4_14 {a b c d e f : Int} : m__law_worth [g4_14, .tuple (([a, b, c, d, e, f] : List Int).map .int)] = some (.int ((0 : Int) + a * 0 + b * 0 + c * 1 + d * 1 + e * 0 + f * 0)) := by kernel_rfl
theorem we4_14 {a b c d e f : Int} : W4 a b c d e f g4_14 = (0 : Int) + c + d := by unfold W4; rw [wa4_14]
theorem ca4_14 {a b c d e f : Int} : calmA 4 (.tuple (([a, b, c, d, e, f] : List Int).map .int)) g4_14 = (!(((decide ((0 : Int) + c < 0) || (decide ((0 : Int) + c < 0) || false)) || ((decide ((0 : Int) + d < 0) || (decide ((0 : Int) + d < 0) || false)) || false)) || (false || ((decide (0 < (0 : Int) + a + b + e + f) || false) || false)))) := by kernel_rfl
theorem cb4_14 {a b c d e f : Int} : calmB (W4 a b c d e f) nxF 4 g4_14 = (!((decide ((0 : Int) + c + d < (0 : Int) + d) || (decide ((0 : Int) + c + d < (0 : Int) + c) || (decide ((0 : Int) + c + d < (0 : Int) + c) || (decide ((0 : Int) + c + d < (0 : Int) + d) || false)))) || ((decide ((0 : Int) + c + d < (0 : Int) + a + b + c + d + e + f) || (decide ((0 : Int) + c + d < (0 : Int) + a + b + c + d + e + f) || (decide ((0 : Int) + c + d < (0 : Int) + c + d) || false))) || ((decide ((0 : Int) + c + d < (0 : Int) + c + d) || (decide ((0 : Int) + c + d < (0 : Int) + a + b + c + d + e + f) || false)) || ((decide ((0 : Int) + c + d < (0 : Int) + a + b + c + d + e + f) || false) || (false || false)))))) := by kernel_rfl
theorem cc4_14 {a b c d e f : Int} : calmA 4 (.tuple (([a, b, c, d, e, f] : List Int).map .int)) g4_14 = calmB (W4 a b c d e f) nxF 4 g4_14 := by
  rw [ca4_14, cb4_14, Bool.eq_iff_iff]
  simp only [Bool.not_eq_true', Bool.or_eq_false_iff, decide_eq_false_iff_not, and_true, true_and]
  all_goals (constructor <;> intro h <;> and_intros <;> first | trivial | omega)
theorem w1_4 {a b c d e f : Int} : ∀ g ∈ GS4, m_worth_of [g, .tuple (([a, b, c, d, e, f] : List Int).map .int)] = some (.int (W4 a b c d e f g)) := by
  intro g hg
  simp only [GS4, List.mem_cons, List.not_mem_nil, or_false] at hg
  rcases hg with rfl | rfl | rfl | rfl | rfl | rfl | rfl | rfl | rfl | rfl | rfl | rfl | rfl | rfl | rfl
  · rw [we4_0]; exact wa4_0
  · rw [we4_1]; exact wa4_1
  · rw [we4_2]; exact wa4_2
  · rw [we4_3]; exact wa4_3
  · rw [we4_4]; exact wa4_4
  · rw [we4_5]; exact wa4_5
  · rw [we4_6]; exact wa4_6
  · rw [we4_7]; exact wa4_7
  · rw [we4_8]; exact wa4_8
  · rw [we4_9]; exact wa4_9
  · rw [we4_10]; exact wa4_10
  · rw [we4_11]; exact wa4_11
  · rw [we4_12]; exact wa4_12
  · rw [we4_13]; exact wa4_13
  · rw [we4_14]; exact wa4_14
theorem w2_4 {a b c d e f : Int} : ∀ g ∈ GS4, m__law_worth [g, .tuple (([a, b, c, d, e, f] : List Int).map .int)] = some (.int (W4 a b c d e f g)) := by
  intro g hg
  simp only [GS4, List.mem_cons, List.not_mem_nil, or_false] at hg
  rcases hg with rfl | rfl | rfl | rfl | rfl | rfl | rfl | rfl | rfl | rfl | rfl | rfl | rfl | rfl | rfl
  · rw [we4_0]; exact Eq.trans wb4_0 (congrArg (fun z : Int => some (PyData.int z)) (by omega))
  · rw [we4_1]; exact Eq.trans wb4_1 (congrArg (fun z : Int => some (PyData.int z)) (by omega))
  · rw [we4_2]; exact Eq.trans wb4_2 (congrArg (fun z : Int => some (PyData.int z)) (by omega))
  · rw [we4_3]; exact Eq.trans wb4_3 (congrArg (fun z : Int => some (PyData.int z)) (by omega))
  · rw [we4_4]; exact Eq.trans wb4_4 (congrArg (fun z : Int => some (PyData.int z)) (by omega))
  · rw [we4_5]; exact Eq.trans wb4_5 (congrArg (fun z : Int => some (PyData.int z)) (by omega))
  · rw [we4_6]; exact Eq.trans wb4_6 (congrArg (fun z : Int => some (PyData.int z)) (by omega))
  · rw [we4_7]; exact Eq.trans wb4_7 (congrArg (fun z : Int => some (PyData.int z)) (by omega))
  · rw [we4_8]; exact Eq.trans wb4_8 (congrArg (fun z : Int => some (PyData.int z)) (by omega))
  · rw [we4_9]; exact Eq.trans wb4_9 (congrArg (fun z : Int => some (PyData.int z)) (by omega))
  · rw [we4_10]; exact Eq.trans wb4_10 (congrArg (fun z : Int => some (PyData.int z)) (by omega))
  · rw [we4_11]; exact Eq.trans wb4_11 (congrArg (fun z : Int => some (PyData.int z)) (by omega))
  · rw [we4_12]; exact Eq.trans wb4_12 (congrArg (fun z : Int => some (PyData.int z)) (by omega))
  · rw [we4_13]; exact Eq.trans wb4_13 (congrArg (fun z : Int => some (PyData.int z)) (by omega))
  · rw [we4_14]; exact Eq.trans wb4_14 (congrArg (fun z : Int => some (PyData.int z)) (by omega))
theorem cAB_4 {a b c d e f : Int} : ∀ g ∈ GS4, calmA 4 (.tuple (([a, b, c, d, e, f] : List Int).map .int)) g = calmB (W4 a b c d e f) nxF 4 g := by
  intro g hg
  simp only [GS4, List.mem_cons, List.not_mem_nil, or_false] at hg
  rcases hg with rfl | rfl | rfl | rfl | rfl | rfl | rfl | rfl | rfl | rfl | rfl | rfl | rfl | rfl | rfl
  · exact cc4_0
  · exact cc4_1
  · exact cc4_2
  · exact cc4_3
  · exact cc4_4
  · exact cc4_5
  · exact cc4_6
  · exact cc4_7
  · exact cc4_8
  · exact cc4_9
  · exact cc4_10
  · exact cc4_11
  · exact cc4_12
  · exact cc4_13
  · exact cc4_14
theorem len4_ : ∀ {zs : List Int}, zs.length = 6 → ∃ a b c d e f : Int, zs = [a, b, c, d, e, f]
  | [a, b, c, d, e, f], _ => ⟨a, b, c, d, e, f, rfl⟩
theorem plain4 (zs : List Int) (hl : (zs.length : Int) = (4 : Int) * (4 - 1) / 2) (hz : ∀ z ∈ zs, -7 ≤ z ∧ z ≤ 7) :
    ∃ GS : List PyData, m__law_groupings [.int 4] = some (.list GS) ∧ 0 < GS.length ∧ GS.length < 1000 ∧ ∀ g ∈ GS, ∀ m : Int, 1 ≤ m → m ≤ 4 → b_law ([.no, .no, .dat (.int 4), .no, .no, .no, .no, .dat (.tuple (zs.map .int)), .dat (.list GS), .dat g, .dat (.int m), .no, .no, .no, .no, .no, .no, .no, .no, .no, .no] : SE) = some (.rt (.dat (.bool true))) := by
  have h0 : zs.length = 6 := by omega
  obtain ⟨a, b, c, d, e, f, rfl⟩ := len4_ h0
  exact ⟨GS4, gl4, by decide, by decide, fun g hg m m1 m2 => Fx.law (fx_of (W := W4 a b c d e f) (by decide) (by decide) chk4 hl hz w1_4 w2_4 cAB_4) hg m m1 m2⟩
end DL

/-! Pz: the plain part. -/
namespace DL
open PySem PySem.Spec PyProof.Rows L2
theorem plain_holds : Plain := by
  intro n zs n1 n4 hl hz
  have : n = 1 ∨ n = 2 ∨ n = 3 ∨ n = 4 := by omega
  rcases this with rfl | rfl | rfl | rfl
  · exact plain1 zs hl hz
  · exact plain2 zs hl hz
  · exact plain3 zs hl hz
  · exact plain4 zs hl hz
end DL

/-! Dend: the statement, given the plain part. -/
open PySem PySem.W PySem.Calls PyProof.Rows
theorem PySem.Challenge.cw_groupdeeds_k15_whole_likings_holds : PySem.Challenge.rw_groupdeeds_k15_whole_likings.Holds := by
  have PL : DL.Plain := DL.plain_holds
  w_on; o_law
  refine HandSHeadRun.head_any (r := OpenLaw.row PySem.Challenge.rw_groupdeeds_k15_whole_likings) (q := view (OpenLaw.row PySem.Challenge.rw_groupdeeds_k15_whole_likings).prog [52]) (H := DL.hk) (ob := DL.hob) (M := 6000) (loose := DL.hloose) (d := HandSHeadRun.topDef (OpenLaw.row PySem.Challenge.rw_groupdeeds_k15_whole_likings).prog 52) (kwd := []) DL.hob_eq
    (by kernel_rfl) (fun s => by kernel_rfl) DL.hrun (by kernel_rfl) (by kernel_rfl) (by kernel_rfl) (by rfl) (by first | assumption | decide +kernel) (by decide +kernel) ⟨rfl, rfl, rfl, rfl, rfl, by decide +kernel⟩ ?hw ?hc
  case hw => w_witness2
  case hc =>
    refine LamX.walk_ofTsE (l := PySem.Challenge.rw_groupdeeds_k15_whole_likings) (n := 63) (k := 8) (x := "_law_script") (CX := fun _ => L2.CX0) rfl (by decide) (by kernel_rfl) ⟨rfl, by decide, by decide⟩ ?F (fun _ _ _ _ _ z => z)
    intro w mg fa h Y G hmg0
    obtain ⟨K, KX, c⟩ := Y
    have hmg : mg ("law" : PySem.Str) = some (.ref fa) := by
      have e : (HandSHeadRun.topDef (OpenLaw.row PySem.Challenge.rw_groupdeeds_k15_whole_likings).prog 52).name = ("law" : PySem.Str) := by kernel_rfl
      rw [← e]
      exact hmg0
    exact ⟨K, KX, DL.law_at PL KX G c hmg⟩
