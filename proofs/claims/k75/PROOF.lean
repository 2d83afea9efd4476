import PyProof.Rows.All
import Wide.All
import OpenK.AllK
import Wide.FinOn
import HandS.ForMost
import HandS.IsInst
import HandS.Zip
import HandS.TupAny
import HandS.TupLe
import HandS.Conv
import HandS.DictTup
import HandS.Defaults
import HandS.Lambda
import HandS.SortRule
import KE.GoesEnum
import HandS.DictComp
import PyProof.DictCompW
import HandS.Wide
import HandS.ForExc
import HandS.ExcInit
import KE.KExcSuper
import KE.RegKSuper
import KE.KExcInit
import HandS.ExcField
import HandS.ExcIs
import HandS.TryMany
import HandS.ExcOwn
import PyProof.ReprRoads
import PyProof.CallFns
import HandS.Nested
import HandS.TupMul
import HandS.Star
import HandS.EndTab
import HandS.EndBits
import PySem.Challenge.RW_wholemoment_k75_errors_of_counts
import HandS.Head0
import HandS.Head1
import HandS.Head2
import HandS.HeadEnd
import HandS.HeadHook1
import HandS.HeadHook2
import HandS.HeadHook3
import HandS.HeadHook4
set_option Elab.async false
set_option linter.all false
set_option maxRecDepth 100000
set_option maxHeartbeats 2000000
/-! AF: an address-free layer over HandS. A def's text is read as a transformer over plain data (PyData), without a heap. -/
namespace AF
open PySem PySem.Spec PyProof.Rows L2

abbrev D := PyData

/-! ### data: as HandS has it, but a tuple, a list is always a tracked one -/
mutual
inductive Dp (K : PySem.W.Frag) (H : Hp) : V → PyData → Prop
  | non : Dp K H .non .none
  | bl (b : Bool) : Dp K H (.bl b) (.bool b)
  | int (i : Int) : Dp K H (.int i) (.int i)
  | str (x : Str) : Dp K H (.str x) (.str x)
  | lst {a : Addr} {xs : List V} {ds : List PyData} : H a = some (.lst xs) → DpAll K H xs ds → Dp K H (.ref a) (.list ds)
  /-- a list of ints that is read alone (the script), kept apart: as data a dict of its ints -/
  | scr {a : Addr} {ns : List Int} : SqL K H a (ns.map V.int) → Dp K H (.ref a) (.dict (ns.map fun n => (.int n, .none)))
  | tup {a : Addr} {xs : List V} {ds : List PyData} : H a = some (.tup xs) → DpAll K H xs ds → Dp K H (.ref a) (.tuple ds)
  /-- an empty dict -/
  | emp {a : Addr} : H a = some (.dK []) → Dp K H (.ref a) (.dict [(.bool true, .none)])
inductive DpAll (K : PySem.W.Frag) (H : Hp) : List V → List PyData → Prop
  | nil : DpAll K H [] []
  | cons {v : V} {vs : List V} {d : PyData} {ds : List PyData} : Dp K H v d → DpAll K H vs ds → DpAll K H (v :: vs) (d :: ds)
end
theorem sqT_of {K : PySem.W.Frag} {H : Hp} {a : Addr} {xs : List V} (h : H a = some (.tup xs)) : SqT K H a xs := .inl (Rd.of h)
theorem canLay_cons {d : PyData} {ds : List PyData} (h : PyData.canLayAll0 (d :: ds) = true) : PyData.canLay0 d = true ∧ PyData.canLayAll0 ds = true := Bool.and_eq_true_iff.mp h
mutual
theorem Dp.old0 {K : PySem.W.Frag} {H : Hp} : ∀ {d : D} {v : V}, PyData.canLay0 d = true → Dp K H v d → L2.Dp K H v d
  | .none, _, _, h => by cases h; exact .non
  | .bool b, _, _, h => by cases h; exact .bl b
  | .int i, _, _, h => by cases h; exact .int i
  | .str x, _, _, h => by cases h; exact .str x
  | .list ds, _, c, h => by
    cases h with
    | lst hs ha => exact .lst (.of hs) (DpAll.old0 c ha)
  | .tuple ds, _, c, h => by
    cases h with
    | tup hs ha => exact .tup (sqT_of hs) (DpAll.old0 c ha)
  | .dict _, _, c, h => by cases c
theorem DpAll.old0 {K : PySem.W.Frag} {H : Hp} : ∀ {ds : List D} {vs : List V}, PyData.canLayAll0 ds = true → DpAll K H vs ds → L2.DpAll K H vs ds
  | [], _, _, h => by cases h; exact .nil
  | d :: ds, _, c, h => by
    cases h with
    | cons h1 h2 => exact .cons (Dp.old0 (canLay_cons c).1 h1) (DpAll.old0 (canLay_cons c).2 h2)
end
theorem Dp.old {K : PySem.W.Frag} {H : Hp} {d : D} {v : V} (c : SeqAt.shaped d = true) (h : Dp K H v d) : L2.Dp K H v d := Dp.old0 (SeqAt.canLay_of_shaped c) h
/-! ### kept by a growing heap -/
theorem sqT_same {K : PySem.W.Frag} {H H' : Hp} {a : Addr} {xs : List V} (e : Same H H') (h : SqT K H a xs) : SqT K H' a xs := by
  rcases h with (h | ⟨o, h⟩) | h
  · exact .inl (.inl (e _ _ h))
  · exact .inl (.inr ⟨o, e _ _ h⟩)
  · exact .inr h
mutual
theorem dp_same {K : PySem.W.Frag} {H H' : Hp} (e : Same H H') : ∀ {d : D} {v : V}, Dp K H v d → Dp K H' v d
  | .none, _, h => by cases h; exact .non
  | .bool b, _, h => by cases h; exact .bl b
  | .int i, _, h => by cases h; exact .int i
  | .str x, _, h => by cases h; exact .str x
  | .list ds, _, h => by
    cases h with
    | lst hs ha => exact .lst (e _ _ hs) (dpa_same e ha)
  | .tuple ds, _, h => by
    cases h with
    | tup hs ha => exact .tup (e _ _ hs) (dpa_same e ha)
  | .dict _, _, h => by
    cases h with
    | scr hs => exact .scr (e.seq hs)
    | emp hs => exact .emp (e _ _ hs)
theorem dpa_same {K : PySem.W.Frag} {H H' : Hp} (e : Same H H') : ∀ {ds : List D} {vs : List V}, DpAll K H vs ds → DpAll K H' vs ds
  | [], _, h => by cases h; exact .nil
  | d :: ds, _, h => by
    cases h with
    | cons h1 h2 => exact .cons (dp_same e h1) (dpa_same e h2)
end
theorem dpa_len {K : PySem.W.Frag} {H : Hp} : ∀ {ds : List D} {vs : List V}, DpAll K H vs ds → vs.length = ds.length
  | [], _, h => by cases h; rfl
  | d :: ds, _, h => by
    cases h with
    | cons h1 h2 => rw [List.length_cons, List.length_cons, dpa_len h2]
theorem dpa_get {K : PySem.W.Frag} {H : Hp} : ∀ {ds : List D} {vs : List V} {i : Nat} {d : D}, DpAll K H vs ds → ds[i]? = some d → ∃ v, vs[i]? = some v ∧ Dp K H v d
  | [], _, _, _, _, e => by simp at e
  | d :: ds, _, 0, _, h, e => by
    cases h with
    | cons h1 h2 =>
      have e' : d = _ := Option.some.inj e
      subst e'
      exact ⟨_, rfl, h1⟩
  | d :: ds, _, i + 1, _, h, e => by
    cases h with
    | cons h1 h2 =>
      obtain ⟨v, q1, q2⟩ := dpa_get (i := i) h2 (by simpa using e)
      exact ⟨v, by simpa using q1, q2⟩
theorem dpa_getV {K : PySem.W.Frag} {H : Hp} {ds : List D} {vs : List V} {i : Nat} {v : V} (h : DpAll K H vs ds) (e : vs[i]? = some v) : ∃ d, ds[i]? = some d ∧ Dp K H v d := by
  have hl : i < ds.length := by
    rw [← dpa_len h]
    exact (List.getElem?_eq_some_iff.mp e).1
  obtain ⟨v', e1, e2⟩ := dpa_get h (List.getElem?_eq_getElem hl)
  rw [e] at e1
  cases e1
  exact ⟨_, List.getElem?_eq_getElem hl, e2⟩
theorem dpa_append {K : PySem.W.Frag} {H : Hp} : ∀ {ds es : List D} {vs us : List V}, DpAll K H vs ds → DpAll K H us es → DpAll K H (vs ++ us) (ds ++ es)
  | [], _, _, _, h, k => by cases h; exact k
  | d :: ds, _, _, _, h, k => by
    cases h with
    | cons h1 h2 => exact .cons h1 (dpa_append h2 k)
theorem dpa_take {K : PySem.W.Frag} {H : Hp} : ∀ (n : Nat) {ds : List D} {vs : List V}, DpAll K H vs ds → DpAll K H (vs.take n) (ds.take n)
  | 0, _, _, _ => by simpa using DpAll.nil
  | n + 1, [], _, h => by cases h; exact .nil
  | n + 1, d :: ds, _, h => by
    cases h with
    | cons h1 h2 => exact .cons h1 (dpa_take n h2)
theorem dpa_drop {K : PySem.W.Frag} {H : Hp} : ∀ (n : Nat) {ds : List D} {vs : List V}, DpAll K H vs ds → DpAll K H (vs.drop n) (ds.drop n)
  | 0, _, _, h => by simpa using h
  | n + 1, [], _, h => by cases h; exact .nil
  | n + 1, d :: ds, _, h => by
    cases h with
    | cons h1 h2 => exact dpa_drop n h2
theorem dpa_rev {K : PySem.W.Frag} {H : Hp} : ∀ {ds : List D} {vs : List V}, DpAll K H vs ds → DpAll K H vs.reverse ds.reverse
  | [], _, h => by cases h; exact .nil
  | d :: ds, _, h => by
    cases h with
    | cons h1 h2 =>
      rw [List.reverse_cons, List.reverse_cons]
      exact dpa_append (dpa_rev h2) (.cons h1 .nil)
theorem dpa_nil {K : PySem.W.Frag} {H : Hp} {ds : List D} (h : DpAll K H [] ds) : ds = [] := by cases h; rfl

/-! ### slots -/
/-- a lambda of the text -/
structure LamT where
  q : Str
  params : Arguments
  body : Expr
  scope : Scope
/-- the object at f is such a lambda, its code object at c', its captured cells cl -/
def LamO (f c' : Addr) (t : LamT) (cl : List (Str × Addr)) : HO := .ext fun h => ∃ pm ctv : Value, h.get? f = some (PySem.W.kla_obj "<lambda>" t.q t.params t.body t.scope cl pm c' ctv)
/-- a function as a value: a def, or a lambda -/
inductive FnD where
  | glob (f : Addr)
  | lam (t : LamT) (cl : List (Str × Addr))
def FnV (F : Hp) (v : V) : FnD → Prop
  | .glob f => v = .ref f
  | .lam t cl => ∃ f c', v = .ref f ∧ F f = some (LamO f c' t cl) ∧ F c' = some (LamX.CodeO c' t.q)
theorem fnV_same {F F' : Hp} {v : V} {d : FnD} (s : Same F F') (h : FnV F v d) : FnV F' v d := by
  cases d with
  | glob f => exact h
  | lam t cl => obtain ⟨f, c', e, h1, h2⟩ := h; exact ⟨f, c', e, s _ _ h1, s _ _ h2⟩
abbrev FnVs (F : Hp) : List V → List FnD → Prop := Paired fun v d => FnV F v d
theorem fnVs_same {F F' : Hp} {vs : List V} {ds : List FnD} (s : Same F F') (h : FnVs F vs ds) : FnVs F' vs ds := Paired.mapP h fun _ _ z => fnV_same s z
inductive Sl where
  | no
  | fz (d : D)
  | ol (ds : List D)
  | od (kvs : List (Key × D))
  | ot (kvs : List (List Key × D))
  | dc (a : Addr) (ds : List D)
  /-- a code object's table (no name of the def: a slot of our own) -/
  | tb (P : Addr) (q : Str)
  /-- a list of functions -/
  | fl (fs : List FnD)
  /-- a function -/
  | fv (f : FnD)
  /-- data, the value told -/
  | vv (v : V) (d : D)
def Sl.own : Sl → Bool
  | .no => false
  | .fz _ => false
  | .fv _ => false
  | .vv _ _ => false
  | _ => true
abbrev Env' := List Sl
inductive VD where
  | d (x : D)
  | own (i : Nat)

/-- pairs of a dict -/
abbrev KVd {κ : Type} (K : PySem.W.Frag) (F : Hp) : List (κ × V) → List (κ × D) → Prop := Paired fun (p : κ × V) (q : κ × D) => p.1 = q.1 ∧ Dp K F p.2 q.2
/-- the code objects that a table tells bear the name q -/
def TabF (F : Hp) (q : Str) (ps : Array Value) : Prop := ∀ (pos : Pos) (cv : Value), codeAmong pos ps.toList = some cv → ∃ c, cv = .ref c ∧ F c = some (LamX.CodeO c q)
theorem tabF_same {F F' : Hp} {q : Str} {ps : Array Value} (f : Same F F') (h : TabF F q ps) : TabF F' q ps := fun pos cv e => by
  obtain ⟨c, e1, e2⟩ := h pos cv e
  exact ⟨c, e1, f _ _ e2⟩
def SlAt (K : PySem.W.Frag) (F H : Hp) (o : Option V) : Sl → Prop
  | .no => True
  | .fz d => ∃ v, o = some v ∧ Dp K F v d
  | .ol ds => ∃ a xs, o = some (.ref a) ∧ F a = none ∧ H a = some (.lst xs) ∧ DpAll K F xs ds
  | .od kvs => ∃ a ks, o = some (.ref a) ∧ F a = none ∧ H a = some (.dK ks) ∧ KVd K F ks kvs
  | .ot kvs => ∃ a ks, o = some (.ref a) ∧ F a = none ∧ H a = some (.dT ks) ∧ KVd K F ks kvs
  | .dc a ds => ∃ xs, o = some (.ref a) ∧ F a = none ∧ H a = some (.lst xs) ∧ DpAll K F xs ds
  | .tb P q => ∃ ps : Array Value, o = some (.ref P) ∧ F P = none ∧ H P = some (.tbl ps) ∧ PySem.TriplesOk ps.toList ∧ TabF F q ps
  | .fl fs => ∃ a xs, o = some (.ref a) ∧ F a = none ∧ H a = some (.lst xs) ∧ FnVs F xs fs
  | .fv d => ∃ v, o = some v ∧ FnV F v d
  | .vv v d => o = some v ∧ Dp K F v d
def OwnAt (E : Env') (i : Nat) : Prop := ∃ s, E[i]? = some s ∧ s.own = true
structure EnvD (K : PySem.W.Frag) (F H : Hp) (σ : L2.St) (E : Env') : Prop where
  sub : Same F H
  len : σ.length = E.length
  at_ : ∀ (i : Nat) (s : Sl) (o : Option V), E[i]? = some s → σ[i]? = some o → SlAt K F H o s
  sep : ∀ (i j : Nat) (a : Addr), i ≠ j → OwnAt E i → OwnAt E j → σ[i]? = some (some (.ref a)) → σ[j]? ≠ some (some (.ref a))
def RV (K : PySem.W.Frag) (F : Hp) (σ : L2.St) (v : V) : VD → Prop
  | .d x => Dp K F v x
  | .own i => σ[i]? = some (some v)
/-- b is one of the env's own objects -/
def Mine (σ : L2.St) (E : Env') (b : Addr) : Prop := ∃ i, OwnAt E i ∧ σ[i]? = some (some (.ref b))
/-- what an expression may do -/
structure Ext (F H F' H' : Hp) (σ : L2.St) (E E' : Env') : Prop where
  fz : Same F F'
  new : ∀ b o, F' b = some o → F b = some o ∨ H b = none
  keep : ∀ b o, H b = some o → ¬ Mine σ E b → H' b = some o
  live : ∀ b o, H b = some o → ∃ o', H' b = some o'
  kin : E'.length = E.length ∧ ∀ i, (OwnAt E i ↔ OwnAt E' i) ∧ (¬ OwnAt E i → E'[i]? = E[i]?)
theorem Ext.refl (F H : Hp) (σ : L2.St) (E : Env') : Ext F H F H σ E E :=
  ⟨Same.refl F, fun _ _ h => .inl h, fun _ _ h _ => h, fun _ o h => ⟨o, h⟩, rfl, fun _ => ⟨Iff.rfl, fun _ => rfl⟩⟩
theorem mine_kin {σ : L2.St} {E E' : Env'} {b : Addr} (k : ∀ i, (OwnAt E i ↔ OwnAt E' i) ∧ (¬ OwnAt E i → E'[i]? = E[i]?)) : Mine σ E b ↔ Mine σ E' b :=
  ⟨fun ⟨i, h, e⟩ => ⟨i, (k i).1.mp h, e⟩, fun ⟨i, h, e⟩ => ⟨i, (k i).1.mpr h, e⟩⟩
theorem Ext.trans {F H F1 H1 F2 H2 : Hp} {σ : L2.St} {E E1 E2 : Env'} (a : Ext F H F1 H1 σ E E1) (b : Ext F1 H1 F2 H2 σ E1 E2) : Ext F H F2 H2 σ E E2 where
  fz := a.fz.trans b.fz
  new := fun c o h => by
    rcases b.new c o h with z | z
    · exact a.new c o z
    · right
      cases q : H c with
      | none => rfl
      | some u =>
        obtain ⟨o', e⟩ := a.live c u q
        rw [z] at e
        cases e
  keep := fun c o h n => b.keep c o (a.keep c o h n) fun m => n ((mine_kin a.kin.2).mpr m)
  live := fun c o h => by
    obtain ⟨o', e⟩ := a.live c o h
    exact b.live c o' e
  kin := ⟨b.kin.1.trans a.kin.1, fun i => ⟨(a.kin.2 i).1.trans (b.kin.2 i).1, fun n => ((b.kin.2 i).2 fun z => n ((a.kin.2 i).1.mpr z)).trans ((a.kin.2 i).2 n)⟩⟩

theorem rv_ext {K : PySem.W.Frag} {F F' : Hp} {σ : L2.St} {v : V} {x : VD} (e : Same F F') (h : RV K F σ v x) : RV K F' σ v x := by
  cases x with
  | d y => exact dp_same e h
  | own i => exact h
/-- a new frozen object -/
theorem slAt_new {K : PySem.W.Frag} {F H F' H' : Hp} {o : Option V} {s : Sl} (f : Same F F') (h : Same H H') (n : ∀ b u, F' b = some u → F b = some u ∨ H b = none) (x : SlAt K F H o s) : SlAt K F' H' o s := by
  have nn : ∀ {a : Addr} {u : HO}, F a = none → H a = some u → F' a = none := fun {a u} h1 h2 => by
    cases q : F' a with
    | none => rfl
    | some z =>
      rcases n a z q with r | r
      · rw [h1] at r; cases r
      · rw [h2] at r; cases r
  cases s with
  | no => exact x
  | fz d => obtain ⟨v, e, q⟩ := x; exact ⟨v, e, dp_same f q⟩
  | ol ds => obtain ⟨a, xs, e, h1, h2, q⟩ := x; exact ⟨a, xs, e, nn h1 h2, h _ _ h2, dpa_same f q⟩
  | od kvs => obtain ⟨a, xs, e, h1, h2, q⟩ := x; exact ⟨a, xs, e, nn h1 h2, h _ _ h2, Paired.mapP q fun p r z => ⟨z.1, dp_same f z.2⟩⟩
  | ot kvs => obtain ⟨a, xs, e, h1, h2, q⟩ := x; exact ⟨a, xs, e, nn h1 h2, h _ _ h2, Paired.mapP q fun p r z => ⟨z.1, dp_same f z.2⟩⟩
  | dc a ds => obtain ⟨xs, e, h1, h2, q⟩ := x; exact ⟨xs, e, nn h1 h2, h _ _ h2, dpa_same f q⟩
  | tb P q => obtain ⟨ps, e, h1, h2, t, r⟩ := x; exact ⟨ps, e, nn h1 h2, h _ _ h2, t, tabF_same f r⟩
  | fl fs => obtain ⟨a, xs, e, h1, h2, q⟩ := x; exact ⟨a, xs, e, nn h1 h2, h _ _ h2, fnVs_same f q⟩
  | fv d => obtain ⟨v, e, q⟩ := x; exact ⟨v, e, fnV_same f q⟩
  | vv v d => exact ⟨x.1, dp_same f x.2⟩
theorem EnvD.grow {K : PySem.W.Frag} {F H F' H' : Hp} {σ : L2.St} {E : Env'} (I : EnvD K F H σ E) (f : Same F F') (h : Same H H') (s : Same F' H') (n : ∀ b u, F' b = some u → F b = some u ∨ H b = none) : EnvD K F' H' σ E :=
  ⟨s, I.len, fun i sl o e1 e2 => slAt_new f h n (I.at_ i sl o e1 e2), I.sep⟩
theorem Ext.grow {F H F' H' : Hp} {σ : L2.St} {E : Env'} (f : Same F F') (h : Same H H') (n : ∀ b u, F' b = some u → F b = some u ∨ H b = none) : Ext F H F' H' σ E E :=
  ⟨f, n, fun b o e _ => h b o e, fun b o e => ⟨o, h b o e⟩, rfl, fun _ => ⟨Iff.rfl, fun _ => rfl⟩⟩
theorem same_upd {H : Hp} {p : Addr} {o : HO} (hp : H p = none) : Same H (upd H p o) := fun b u e => by rw [upd_ne (ne_of_none e hp)]; exact e
theorem free_sub {F H : Hp} {p : Addr} (s : Same F H) (hp : H p = none) : F p = none := s.free hp
/-- one frozen object laid -/
theorem EnvD.lay {K : PySem.W.Frag} {F H : Hp} {σ : L2.St} {E : Env'} (I : EnvD K F H σ E) {p : Addr} {o : HO} (hp : H p = none) : EnvD K (upd F p o) (upd H p o) σ E := by
  refine I.grow (same_upd (I.sub.free hp)) (same_upd hp) (fun b u e => ?_) fun b u e => ?_
  · by_cases hb : b = p
    · subst hb; rw [upd_same] at e ⊢; exact e
    · rw [upd_ne hb] at e ⊢; exact I.sub _ _ e
  · by_cases hb : b = p
    · subst hb; exact .inr hp
    · rw [upd_ne hb] at e; exact .inl e
theorem Ext.lay {F H : Hp} {σ : L2.St} {E : Env'} {p : Addr} {o : HO} (s : Same F H) (hp : H p = none) : Ext F H (upd F p o) (upd H p o) σ E E := by
  refine Ext.grow (same_upd (s.free hp)) (same_upd hp) fun b u e => ?_
  by_cases hb : b = p
  · subst hb; exact .inr hp
  · rw [upd_ne hb] at e; exact .inl e

/-! ### the judgements -/
abbrev WE := Env' → (VD → Env' → Prop) → Prop
abbrev WT := Env' → (Bool → Env' → Prop) → Prop
abbrev WA := Env' → (List VD → Env' → Prop) → Prop
def Snd (K : PySem.W.Frag) (t : TE) (w : WE) : Prop := ∀ (σ : L2.St) (F H : Hp) (E : Env') (Qd : VD → Env' → Prop) (Q : VK), EnvD K F H σ E → w E Qd →
  (∀ v F' H' E' x, EnvD K F' H' σ E' → Ext F H F' H' σ E E' → RV K F' σ v x → Qd x E' → Q v H') → t σ H Q
def SndT (K : PySem.W.Frag) (t : TT) (w : WT) : Prop := ∀ (σ : L2.St) (F H : Hp) (E : Env') (Qd : Bool → Env' → Prop) (Q : Bool → Hp → Prop), EnvD K F H σ E → w E Qd →
  (∀ b F' H' E', EnvD K F' H' σ E' → Ext F H F' H' σ E E' → Qd b E' → Q b H') → t σ H Q
def RVs (K : PySem.W.Frag) (F : Hp) (σ : L2.St) : List V → List VD → Prop := Paired fun v x => RV K F σ v x
def SndA (K : PySem.W.Frag) (t : TA) (w : WA) : Prop := ∀ (σ : L2.St) (F H : Hp) (E : Env') (Qd : List VD → Env' → Prop) (Q : List V → Hp → Prop), EnvD K F H σ E → w E Qd →
  (∀ vs F' H' E' xs, EnvD K F' H' σ E' → Ext F H F' H' σ E E' → RVs K F' σ vs xs → Qd xs E' → Q vs H') → t σ H Q
structure PU (X : Cx) (e : Expr) (w : WE) : Prop where
  ex : ∃ t, PE X e t ∧ Snd X.K t w
structure PUT (X : Cx) (e : Expr) (w : WT) : Prop where
  ex : ∃ t, PT X e t ∧ SndT X.K t w
structure PUW (X : Cx) (e : Expr) (w : WT) : Prop where
  ex : ∃ t, PW X e t ∧ SndT X.K t w
structure PUA (X : Cx) (es : List Expr) (w : WA) : Prop where
  ex : ∃ t, PA X es t ∧ SndA X.K t w

/-! ### plain values -/
def onD (x : VD) (k : D → Prop) : Prop := match x with
  | .d a => k a
  | .own _ => False
def onO {α : Type} (o : Option α) (k : α → Prop) : Prop := match o with
  | some a => k a
  | none => False
def onB (x : VD) (k : Bool → Prop) : Prop := match x with
  | .d (.bool b) => k b
  | _ => False
theorem onD_of {x : VD} {k : D → Prop} (h : onD x k) : ∃ a, x = .d a ∧ k a := by
  cases x with
  | d a => exact ⟨a, rfl, h⟩
  | own i => exact h.elim
theorem onO_of {α : Type} {o : Option α} {k : α → Prop} (h : onO o k) : ∃ a, o = some a ∧ k a := by
  cases o with
  | some a => exact ⟨a, rfl, h⟩
  | none => exact h.elim
theorem onB_of {x : VD} {k : Bool → Prop} (h : onB x k) : ∃ b, x = .d (.bool b) ∧ k b := by
  cases x with
  | own i => exact h.elim
  | d a => cases a <;> first | exact ⟨_, rfl, h⟩ | exact h.elim

section
variable {X : Cx} {a b c e : Expr} {pos : Pos}
def wC (d : D) : WE := fun E Q => Q (.d d) E
theorem snd_C {K : PySem.W.Frag} {v : V} {d : D} (h : ∀ F, Dp K F v d) : Snd K (tC v) (wC d) := fun σ F H E Qd Q I q k => k v F H E (.d d) I (Ext.refl _ _ _ _) (h F) q
theorem pu_int {i : Int} {j : Nat} : PU X (.Constant (.int i) j pos) (wC (.int i)) := ⟨_, pe_int, snd_C fun _ => .int i⟩
theorem pu_bl {i : Bool} {j : Nat} : PU X (.Constant (.bool i) j pos) (wC (.bool i)) := ⟨_, pe_bl, snd_C fun _ => .bl i⟩
theorem pu_non {j : Nat} : PU X (.Constant .none j pos) (wC .none) := ⟨_, pe_non, snd_C fun _ => .non⟩
theorem pu_str {x : Str} {j : Nat} : PU X (.Constant (.str x) j pos) (wC (.str x)) := ⟨_, pe_str, snd_C fun _ => .str x⟩
def wVar (i : Nat) : WE := fun E Q => match E[i]? with
  | some (.fz d) => Q (.d d) E
  | some .no => False
  | some (.fv _) => False
  | some (.vv _ d) => Q (.d d) E
  | some _ => Q (.own i) E
  | none => False
theorem EnvD.slot {K : PySem.W.Frag} {F H : Hp} {σ : L2.St} {E : Env'} (I : EnvD K F H σ E) {i : Nat} {s : Sl} (h : E[i]? = some s) : ∃ o, σ[i]? = some o ∧ SlAt K F H o s := by
  have hl : i < σ.length := by
    rw [I.len]
    exact (List.getElem?_eq_some_iff.mp h).1
  exact ⟨_, List.getElem?_eq_getElem hl, I.at_ i s _ h (List.getElem?_eq_getElem hl)⟩
theorem slAt_some {K : PySem.W.Frag} {F H : Hp} {o : Option V} {s : Sl} (h : SlAt K F H o s) (n : s ≠ .no) : ∃ v, o = some v := by
  cases s with
  | no => exact absurd rfl n
  | fz d => obtain ⟨v, e, _⟩ := h; exact ⟨v, e⟩
  | ol d => obtain ⟨a, _, e, _⟩ := h; exact ⟨_, e⟩
  | od d => obtain ⟨a, _, e, _⟩ := h; exact ⟨_, e⟩
  | ot d => obtain ⟨a, _, e, _⟩ := h; exact ⟨_, e⟩
  | dc a d => obtain ⟨_, e, _⟩ := h; exact ⟨_, e⟩
  | tb P q => obtain ⟨_, e, _⟩ := h; exact ⟨_, e⟩
  | fl d => obtain ⟨a, _, e, _⟩ := h; exact ⟨_, e⟩
  | fv d => obtain ⟨v, e, _⟩ := h; exact ⟨v, e⟩
  | vv v d => exact ⟨v, h.1⟩
theorem snd_var {K : PySem.W.Frag} (i : Nat) : Snd K (tVar i) (wVar i) := by
  intro σ F H E Qd Q I q k
  unfold wVar at q
  cases h : E[i]? with
  | none => rw [h] at q; exact q.elim
  | some s =>
    rw [h] at q
    obtain ⟨o, ho, hs⟩ := I.slot h
    cases s with
    | no => exact q.elim
    | fz d =>
      obtain ⟨v, e, hd⟩ := hs
      subst e
      exact ⟨v, ho, k v F H E (.d d) I (Ext.refl _ _ _ _) hd q⟩
    | ol d =>
      obtain ⟨v, e⟩ := slAt_some hs (by intro z; cases z)
      subst e
      exact ⟨v, ho, k v F H E (.own i) I (Ext.refl _ _ _ _) ho q⟩
    | od d =>
      obtain ⟨v, e⟩ := slAt_some hs (by intro z; cases z)
      subst e
      exact ⟨v, ho, k v F H E (.own i) I (Ext.refl _ _ _ _) ho q⟩
    | ot d =>
      obtain ⟨v, e⟩ := slAt_some hs (by intro z; cases z)
      subst e
      exact ⟨v, ho, k v F H E (.own i) I (Ext.refl _ _ _ _) ho q⟩
    | dc a d =>
      obtain ⟨v, e⟩ := slAt_some hs (by intro z; cases z)
      subst e
      exact ⟨v, ho, k v F H E (.own i) I (Ext.refl _ _ _ _) ho q⟩
    | tb P d =>
      obtain ⟨v, e⟩ := slAt_some hs (by intro z; cases z)
      subst e
      exact ⟨v, ho, k v F H E (.own i) I (Ext.refl _ _ _ _) ho q⟩
    | fl d =>
      obtain ⟨v, e⟩ := slAt_some hs (by intro z; cases z)
      subst e
      exact ⟨v, ho, k v F H E (.own i) I (Ext.refl _ _ _ _) ho q⟩
    | fv d => exact q.elim
    | vv v d =>
      obtain ⟨e, hd⟩ := hs
      subst e
      exact ⟨v, ho, k v F H E (.d d) I (Ext.refl _ _ _ _) hd q⟩
theorem pu_v (i : Nat) {x : Str} {pos : Pos} (hN : X.N[i]? = some x := by rfl) (hv : Vis X.env.scope x := by first | exact Or.inl rfl | exact Or.inr (Or.inl rfl) | exact Or.inr (Or.inr rfl)) (hd : (x == ("__debug__" : Str)) = false := by decide)
    (hcd : (x == ("__classdict__" : Str)) = false := by decide) : PU X (.Name x pos) (wVar i) := ⟨_, pe_var hN hv hd hcd, snd_var i⟩
theorem pu_gl {x : Str} {v : V} {u : Value} {d : D} (hg : Gl X x) (hm : X.mg x = some u) (r : RelV v u) (hd : ∀ F, Dp X.K F v d) (hb : (x == ("__debug__" : Str)) = false := by decide) : PU X (.Name x pos) (wC d) :=
  ⟨_, pe_glob hg hm r hb, snd_C hd⟩
theorem pu_gi {x : Str} {i : Int} (hg : Gl X x) (hm : ∃ t, X.mg x = some (.int i t)) (hb : (x == ("__debug__" : Str)) = false := by decide) : PU X (.Name x pos) (wC (.int i)) := by
  obtain ⟨t, hm⟩ := hm
  exact pu_gl (v := .int i) hg hm ⟨_, rfl⟩ (fun _ => .int i) hb
theorem pu_gs {x z : Str} (hg : Gl X x) (hm : ∃ t, X.mg x = some (.str z t)) (hb : (x == ("__debug__" : Str)) = false := by decide) : PU X (.Name x pos) (wC (.str z)) := by
  obtain ⟨t, hm⟩ := hm
  exact pu_gl (v := .str z) hg hm ⟨_, rfl⟩ (fun _ => .str z) hb

/-! ### two expressions, a rule by values -/
/-- what a value is as data: an own list reads as a list -/
def res (E : Env') : VD → Option D
  | .d a => some a
  | .own i => match E[i]? with
    | some (.ol ds) => some (.list ds)
    | some (.dc _ ds) => some (.list ds)
    | _ => none
def RD (K : PySem.W.Frag) (F H : Hp) (v : V) (d : D) : Prop := Dp K F v d ∨ ∃ a xs ds, v = .ref a ∧ d = .list ds ∧ F a = none ∧ H a = some (.lst xs) ∧ DpAll K F xs ds
theorem RD.dp {K : PySem.W.Frag} {F H : Hp} {v : V} {d : D} (s : Same F H) (h : RD K F H v d) : Dp K H v d := by
  rcases h with h | ⟨a, xs, ds, rfl, rfl, _, h1, h2⟩
  · exact dp_same s h
  · exact .lst h1 (dpa_same s h2)
theorem RD.list {K : PySem.W.Frag} {F H : Hp} {v : V} {ds : List D} (s : Same F H) (h : RD K F H v (.list ds)) : ∃ a xs, v = .ref a ∧ SqL K H a xs ∧ DpAll K F xs ds := by
  rcases h with h | ⟨a, xs, ds', rfl, e, _, h1, h2⟩
  · cases h with
    | lst hs ha => exact ⟨_, _, rfl, .of (s _ _ hs), ha⟩
  · cases e
    exact ⟨a, xs, rfl, .of h1, h2⟩
theorem RD.listT {K : PySem.W.Frag} {F H : Hp} {v : V} {ds : List D} (s : Same F H) (h : RD K F H v (.list ds)) : ∃ a xs, v = .ref a ∧ H a = some (.lst xs) ∧ DpAll K F xs ds := by
  rcases h with h | ⟨a, xs, ds', rfl, e, _, h1, h2⟩
  · cases h with
    | lst hs ha => exact ⟨_, _, rfl, s _ _ hs, ha⟩
  · cases e
    exact ⟨a, xs, rfl, h1, h2⟩
theorem RD.tup {K : PySem.W.Frag} {F H : Hp} {v : V} {ds : List D} (s : Same F H) (h : RD K F H v (.tuple ds)) : ∃ a xs, v = .ref a ∧ F a = some (.tup xs) ∧ DpAll K F xs ds := by
  rcases h with h | ⟨a, xs, ds', rfl, e, _, h1, h2⟩
  · cases h with
    | tup hs ha => exact ⟨_, _, rfl, hs, ha⟩
  · cases e
theorem res_rd {K : PySem.W.Frag} {F H : Hp} {σ : L2.St} {E : Env'} {v : V} {x : VD} {d : D} (I : EnvD K F H σ E) (r : RV K F σ v x) (h : res E x = some d) : RD K F H v d := by
  cases x with
  | d a =>
    cases (Option.some.inj h : a = d)
    exact .inl r
  | own i =>
    have h : (match E[i]? with
      | some (.ol ds) => some (PyData.list ds)
      | some (.dc _ ds) => some (PyData.list ds)
      | _ => none) = some d := h
    cases e : E[i]? with
    | none => rw [e] at h; cases h
    | some sl =>
      rw [e] at h
      cases sl with
      | ol ds =>
        cases (Option.some.inj h : PyData.list ds = d)
        obtain ⟨o, ho, a, xs, e1, e2, e3, e4⟩ := I.slot e
        have r' : σ[i]? = some (some v) := r
        rw [ho] at r'
        cases (Option.some.inj r').symm.trans e1
        exact .inr ⟨a, xs, ds, rfl, rfl, e2, e3, e4⟩
      | dc a ds =>
        cases (Option.some.inj h : PyData.list ds = d)
        obtain ⟨o, ho, xs, e1, e2, e3, e4⟩ := I.slot e
        have r' : σ[i]? = some (some v) := r
        rw [ho] at r'
        cases (Option.some.inj r').symm.trans e1
        exact .inr ⟨a, xs, ds, rfl, rfl, e2, e3, e4⟩
      | _ => cases h
/-- r, over data, gives f -/
abbrev F2 := D → D → (D → Prop) → Prop
def SndR (K : PySem.W.Frag) (r : R2) (f : F2) : Prop := ∀ (x y : V) (F H : Hp) (σ : L2.St) (E : Env') (a b : D) (Qd : D → Prop) (Q : VK), EnvD K F H σ E → RD K F H x a → RD K F H y b → f a b Qd →
  (∀ v F' H' d, EnvD K F' H' σ E → Ext F H F' H' σ E E → Dp K F' v d → Qd d → Q v H') → r x y H Q
def wBin (f : F2) (wa wb : WE) : WE := fun E Q => wa E fun x E1 => wb E1 fun y E2 => onO (res E2 x) fun a => onO (res E2 y) fun b => f a b fun d => Q (.d d) E2
theorem snd_bin {K : PySem.W.Frag} {r : R2} {f : F2} {ta tb : TE} {wa wb : WE} (hr : SndR K r f) (ha : Snd K ta wa) (hb : Snd K tb wb) : Snd K (tOp r ta tb) (wBin f wa wb) := by
  intro σ F H E Qd Q I q k
  refine ha σ F H E _ _ I q fun v F1 H1 E1 x I1 X1 r1 q1 => ?_
  refine hb σ F1 H1 E1 _ _ I1 q1 fun u F2 H2 E2 y I2 X2 r2 q2 => ?_
  obtain ⟨a, ea, q3⟩ := onO_of q2
  obtain ⟨b, eb, q4⟩ := onO_of q3
  exact hr v u F2 H2 σ E2 a b _ Q I2 (res_rd I2 (rv_ext X2.fz r1) ea) (res_rd I2 r2 eb) q4 fun z F3 H3 d I3 X3 r3 q5 => k z F3 H3 E2 (.d d) I3 ((X1.trans X2).trans X3) r3 q5
theorem sndR_pure {K : PySem.W.Frag} {r : R2} {f : F2} (h : ∀ (x y : V) (F H : Hp) (a b : D) (Qd : D → Prop) (Q : VK), Same F H → Dp K H x a → Dp K H y b → f a b Qd → (∀ v d, (∀ F, Dp K F v d) → Qd d → Q v H) → r x y H Q) : SndR K r f :=
  fun x y F H σ E a b Qd Q I h1 h2 h3 k => h x y F H a b Qd Q I.sub (h1.dp I.sub) (h2.dp I.sub) h3 fun v d hv q => k v F H d I (Ext.refl _ _ _ _) (hv F) q
theorem pu_op {op : Operator} {r : R2} {f : F2} {wa wb : WE} (ho : OpR X (binaryOp op) r) (hr : SndR X.K r f) (ha : PU X a wa) (hb : PU X b wb) : PU X (.BinOp a op b pos) (wBin f wa wb) := by
  obtain ⟨ta, pa, sa⟩ := ha.ex
  obtain ⟨tb, pb, sb⟩ := hb.ex
  exact ⟨_, pe_op ho pa pb, snd_bin hr sa sb⟩
theorem pu_cmp {op : CmpOp} {r : R2} {f : F2} {wa wb : WE} (ho : OpR X (compareOp op) r) (hr : SndR X.K r f) (ha : PU X a wa) (hb : PU X b wb) (hm : behindInMarks op b = false := by first | exact nobehind _ (by decide) (by decide) | rfl) : PU X (.Compare a [op] [b] pos) (wBin f wa wb) := by
  obtain ⟨ta, pa, sa⟩ := ha.ex
  obtain ⟨tb, pb, sb⟩ := hb.ex
  exact ⟨_, pe_cmpR ho pa pb hm, snd_bin hr sa sb⟩
def wB (w : WE) : WT := fun E Q => w E fun x E1 => onB x fun k => Q k E1
theorem sndT_test {K : PySem.W.Frag} {t : TE} {w : WE} (h : Snd K t w) : SndT K (tTest t) (wB w) := by
  intro σ F H E Qd Q I q k
  refine h σ F H E _ _ I q fun v F1 H1 E1 x I1 X1 r1 q1 => ?_
  obtain ⟨b, rfl, q1⟩ := onB_of q1
  cases (show Dp K F1 v (.bool b) from r1)
  exact ⟨b, rfl, k b F1 H1 E1 I1 X1 q1⟩
theorem put_cmp {op : CmpOp} {r : R2} {f : F2} {wa wb : WE} (ho : OpR X (compareOp op) r) (hr : SndR X.K r f) (ha : PU X a wa) (hb : PU X b wb) (hm : behindInMarks op b = false := by first | exact nobehind _ (by decide) (by decide) | rfl) : PUT X (.Compare a [op] [b] pos) (wB (wBin f wa wb)) := by
  obtain ⟨ta, pa, sa⟩ := ha.ex
  obtain ⟨tb, pb, sb⟩ := hb.ex
  exact ⟨_, pt_cmpR ho pa pb hm, sndT_test (snd_bin hr sa sb)⟩
/-- a chain of two -/
def wCh (f g : F2) (wa wb wc : WE) : WE := fun E Q => wa E fun x E1 => wb E1 fun y E2 => onO (res E2 x) fun a => onO (res E2 y) fun b => f a b fun z => onB (.d z) fun k =>
  if k = true then wc E2 fun u E3 => onO (res E3 y) fun b' => onO (res E3 u) fun c => g b' c fun d => Q (.d d) E3 else Q (.d (.bool false)) E2
theorem snd_chain {K : PySem.W.Frag} {r r' : R2} {f g : F2} {ta tb tc : TE} {wa wb wc : WE} (hr : SndR K r f) (hr' : SndR K r' g) (ha : Snd K ta wa) (hb : Snd K tb wb) (hc : Snd K tc wc) : Snd K (tChain r r' ta tb tc) (wCh f g wa wb wc) := by
  intro σ F H E Qd Q I q k
  refine ha σ F H E _ _ I q fun v F1 H1 E1 x I1 X1 r1 q1 => ?_
  refine hb σ F1 H1 E1 _ _ I1 q1 fun u F2 H2 E2 y I2 X2 r2 q2 => ?_
  obtain ⟨a, ea, q3⟩ := onO_of q2
  obtain ⟨b, eb, q4⟩ := onO_of q3
  refine hr v u F2 H2 σ E2 a b _ _ I2 (res_rd I2 (rv_ext X2.fz r1) ea) (res_rd I2 r2 eb) q4 fun z F3 H3 d I3 X3 r3 q5 => ?_
  obtain ⟨kk, ed, q6⟩ := onB_of q5
  cases ed
  cases r3
  refine ⟨kk, rfl, ?_⟩
  cases kk with
  | false =>
    rw [if_neg Bool.false_ne_true] at q6 ⊢
    exact k (.bl false) F3 H3 E2 (.d (.bool false)) I3 ((X1.trans X2).trans X3) (.bl false) q6
  | true =>
    rw [if_pos rfl] at q6 ⊢
    refine hc σ F3 H3 E2 _ _ I3 q6 fun w' F4 H4 E4 c I4 X4 r4 q7 => ?_
    obtain ⟨b', eb', q8⟩ := onO_of q7
    obtain ⟨c', ec, q9⟩ := onO_of q8
    exact hr' u w' F4 H4 σ E4 b' c' _ Q I4 (res_rd I4 (rv_ext X4.fz (rv_ext X3.fz r2)) eb') (res_rd I4 r4 ec) q9 fun z F5 H5 d4 I5 X5 r5 q10 => k z F5 H5 E4 (.d d4) I5 ((((X1.trans X2).trans X3).trans X4).trans X5) r5 q10
theorem pu_chain {op op' : CmpOp} {r r' : R2} {f g : F2} {wa wb wc : WE} (ho : OpR X (compareOp op) r) (ho' : OpR X (compareOp op') r') (hr : SndR X.K r f) (hr' : SndR X.K r' g) (ha : PU X a wa) (hb : PU X b wb) (hc : PU X c wc)
    (hm : lastMarks [op, op'] [b, c] = false := by with_unfolding_all rfl) : PU X (.Compare a [op, op'] [b, c] pos) (wCh f g wa wb wc) := by
  obtain ⟨ta, pa, sa⟩ := ha.ex
  obtain ⟨tb, pb, sb⟩ := hb.ex
  obtain ⟨tc, pc, sc⟩ := hc.ex
  exact ⟨_, pe_chain ho ho' pa pb pc hm, snd_chain hr hr' sa sb sc⟩
theorem put_chain {op op' : CmpOp} {r r' : R2} {f g : F2} {wa wb wc : WE} (ho : OpR X (compareOp op) r) (ho' : OpR X (compareOp op') r') (hr : SndR X.K r f) (hr' : SndR X.K r' g) (ha : PU X a wa) (hb : PU X b wb) (hc : PU X c wc)
    (hm : lastMarks [op, op'] [b, c] = false := by with_unfolding_all rfl) : PUT X (.Compare a [op, op'] [b, c] pos) (wB (wCh f g wa wb wc)) := by
  obtain ⟨ta, pa, sa⟩ := ha.ex
  obtain ⟨tb, pb, sb⟩ := hb.ex
  obtain ⟨tc, pc, sc⟩ := hc.ex
  exact ⟨_, pt_chain ho ho' pa pb pc hm, sndT_test (snd_chain hr hr' sa sb sc)⟩
end
end AF

set_option Elab.async false
set_option linter.all false
set_option maxRecDepth 100000
set_option maxHeartbeats 2000000
namespace AF
open PySem PySem.Spec PyProof.Rows L2
section
variable {X : Cx} {a b c e : Expr} {es : List Expr} {pos : Pos}

/-! ### and, or, not, if -/
def wAnd (wa wb : WE) : WE := fun E Q => wa E fun x E1 => onB x fun k => if k = true then wb E1 Q else Q (.d (.bool false)) E1
def wOr (wa wb : WE) : WE := fun E Q => wa E fun x E1 => onB x fun k => if k = true then Q (.d (.bool true)) E1 else wb E1 Q
def wNot (wa : WE) : WE := fun E Q => wa E fun x E1 => onB x fun k => Q (.d (.bool (!k))) E1
theorem dp_bool {K : PySem.W.Frag} {F : Hp} {v : V} {b : Bool} (h : Dp K F v (.bool b)) : v = .bl b := by cases h; rfl
theorem dp_int {K : PySem.W.Frag} {F : Hp} {v : V} {b : Int} (h : Dp K F v (.int b)) : v = .int b := by cases h; rfl
theorem dp_str {K : PySem.W.Frag} {F : Hp} {v : V} {b : Str} (h : Dp K F v (.str b)) : v = .str b := by cases h; rfl
theorem dp_non {K : PySem.W.Frag} {F : Hp} {v : V} (h : Dp K F v .none) : v = .non := by cases h; rfl
theorem pu_one {op : BoolOp} {w : WE} (h : PU X a w) : PU X (.BoolOp op [a] pos) w := by
  obtain ⟨t, p, s⟩ := h.ex
  exact ⟨_, pe_one p, s⟩
theorem pu_and {wa wb : WE} {rest : List Expr} (ha : PU X a wa) (hb : PU X (.BoolOp .And (b :: rest) pos) wb) : PU X (.BoolOp .And (a :: b :: rest) pos) (wAnd wa wb) := by
  obtain ⟨ta, pa, sa⟩ := ha.ex
  obtain ⟨tb, pb, sb⟩ := hb.ex
  refine ⟨_, pe_and pa pb, fun σ F H E Qd Q I q k => ?_⟩
  refine sa σ F H E _ _ I q fun v F1 H1 E1 x I1 X1 r1 q1 => ?_
  obtain ⟨kk, ex, q2⟩ := onB_of q1
  subst ex
  refine ⟨kk, dp_bool r1, ?_⟩
  cases kk with
  | false =>
    rw [if_neg Bool.false_ne_true] at q2 ⊢
    exact k _ F1 H1 E1 (.d (.bool false)) I1 X1 (Dp.bl false) q2
  | true =>
    rw [if_pos rfl] at q2 ⊢
    exact sb σ F1 H1 E1 _ _ I1 q2 fun u F2 H2 E2 y I2 X2 r2 q3 => k u F2 H2 E2 y I2 (X1.trans X2) r2 q3
theorem pu_or {wa wb : WE} {rest : List Expr} (ha : PU X a wa) (hb : PU X (.BoolOp .Or (b :: rest) pos) wb) : PU X (.BoolOp .Or (a :: b :: rest) pos) (wOr wa wb) := by
  obtain ⟨ta, pa, sa⟩ := ha.ex
  obtain ⟨tb, pb, sb⟩ := hb.ex
  refine ⟨_, pe_or pa pb, fun σ F H E Qd Q I q k => ?_⟩
  refine sa σ F H E _ _ I q fun v F1 H1 E1 x I1 X1 r1 q1 => ?_
  obtain ⟨kk, ex, q2⟩ := onB_of q1
  subst ex
  refine ⟨kk, dp_bool r1, ?_⟩
  cases kk with
  | true =>
    rw [if_pos rfl] at q2 ⊢
    exact k _ F1 H1 E1 (.d (.bool true)) I1 X1 (Dp.bl true) q2
  | false =>
    rw [if_neg Bool.false_ne_true] at q2 ⊢
    exact sb σ F1 H1 E1 _ _ I1 q2 fun u F2 H2 E2 y I2 X2 r2 q3 => k u F2 H2 E2 y I2 (X1.trans X2) r2 q3
theorem pu_not {wa : WE} (ha : PU X a wa) : PU X (.UnaryOp .Not a pos) (wNot wa) := by
  obtain ⟨ta, pa, sa⟩ := ha.ex
  refine ⟨_, pe_not pa, fun σ F H E Qd Q I q k => ?_⟩
  refine sa σ F H E _ _ I q fun v F1 H1 E1 x I1 X1 r1 q1 => ?_
  obtain ⟨kk, ex, q2⟩ := onB_of q1
  subst ex
  exact ⟨kk, dp_bool r1, k _ F1 H1 E1 (.d (.bool (!kk))) I1 X1 (Dp.bl _) q2⟩
/-- tests -/
def wAndT (wa wb : WT) : WT := fun E Q => wa E fun k E1 => if k = true then wb E1 Q else Q false E1
def wOrT (wa wb : WT) : WT := fun E Q => wa E fun k E1 => if k = true then Q true E1 else wb E1 Q
def wNotT (wa : WT) : WT := fun E Q => wa E fun k E1 => Q (!k) E1
theorem put_w {w : WT} (h : PUW X e w) : PUT X e w := by
  obtain ⟨t, p, s⟩ := h.ex
  exact ⟨_, p.pt, s⟩
theorem puw_and1 {w : WT} (h : PUT X a w) : PUW X (.BoolOp .And [a] pos) w := by
  obtain ⟨t, p, s⟩ := h.ex
  exact ⟨_, pw_and1 p, s⟩
theorem puw_or1 {w : WT} (h : PUT X a w) : PUW X (.BoolOp .Or [a] pos) w := by
  obtain ⟨t, p, s⟩ := h.ex
  exact ⟨_, pw_or1 p, s⟩
theorem puw_and {wa wb : WT} {rest : List Expr} (ha : PUT X a wa) (hb : PUW X (.BoolOp .And (b :: rest) pos) wb) : PUW X (.BoolOp .And (a :: b :: rest) pos) (wAndT wa wb) := by
  obtain ⟨ta, pa, sa⟩ := ha.ex
  obtain ⟨tb, pb, sb⟩ := hb.ex
  refine ⟨_, pw_and pa pb, fun σ F H E Qd Q I q k => ?_⟩
  refine sa σ F H E _ _ I q fun kk F1 H1 E1 I1 X1 q1 => ?_
  cases kk with
  | false =>
    rw [if_neg Bool.false_ne_true] at q1 ⊢
    exact k _ F1 H1 E1 I1 X1 q1
  | true =>
    rw [if_pos rfl] at q1 ⊢
    exact sb σ F1 H1 E1 _ _ I1 q1 fun u F2 H2 E2 I2 X2 q3 => k u F2 H2 E2 I2 (X1.trans X2) q3
theorem puw_or {wa wb : WT} {rest : List Expr} (ha : PUT X a wa) (hb : PUW X (.BoolOp .Or (b :: rest) pos) wb) : PUW X (.BoolOp .Or (a :: b :: rest) pos) (wOrT wa wb) := by
  obtain ⟨ta, pa, sa⟩ := ha.ex
  obtain ⟨tb, pb, sb⟩ := hb.ex
  refine ⟨_, pw_or pa pb, fun σ F H E Qd Q I q k => ?_⟩
  refine sa σ F H E _ _ I q fun kk F1 H1 E1 I1 X1 q1 => ?_
  cases kk with
  | true =>
    rw [if_pos rfl] at q1 ⊢
    exact k _ F1 H1 E1 I1 X1 q1
  | false =>
    rw [if_neg Bool.false_ne_true] at q1 ⊢
    exact sb σ F1 H1 E1 _ _ I1 q1 fun u F2 H2 E2 I2 X2 q3 => k u F2 H2 E2 I2 (X1.trans X2) q3
theorem put_not {wa : WT} (ha : PUT X a wa) : PUT X (.UnaryOp .Not a pos) (wNotT wa) := by
  obtain ⟨ta, pa, sa⟩ := ha.ex
  exact ⟨_, pt_not pa, fun σ F H E Qd Q I q k => sa σ F H E _ _ I q fun kk F1 H1 E1 I1 X1 q1 => k _ F1 H1 E1 I1 X1 q1⟩
theorem put_val {w : WE} (h : PU X e w) (he : ∀ whole, isTrue e X.env whole = (do let v ← whole; standAt e.pos; holding [v] (truthy v)) := by intro _; rfl) : PUT X e (wB w) := by
  obtain ⟨t, p, s⟩ := h.ex
  exact ⟨_, pt_val p he, sndT_test s⟩
def wIf (wt : WT) (wa wb : WE) : WE := fun E Q => wt E fun k E1 => if k = true then wa E1 Q else wb E1 Q
theorem pu_if {wt : WT} {wa wb : WE} (hc : PUT X c wt) (ha : PU X a wa) (hb : PU X b wb) : PU X (.IfExp c a b pos) (wIf wt wa wb) := by
  obtain ⟨tc, pc, sc⟩ := hc.ex
  obtain ⟨ta, pa, sa⟩ := ha.ex
  obtain ⟨tb, pb, sb⟩ := hb.ex
  refine ⟨_, pe_ifExp pc pa pb, fun σ F H E Qd Q I q k => ?_⟩
  refine sc σ F H E _ _ I q fun kk F1 H1 E1 I1 X1 q1 => ?_
  cases kk with
  | true =>
    rw [if_pos rfl] at q1 ⊢
    exact sa σ F1 H1 E1 _ _ I1 q1 fun u F2 H2 E2 y I2 X2 r2 q3 => k u F2 H2 E2 y I2 (X1.trans X2) r2 q3
  | false =>
    rw [if_neg Bool.false_ne_true] at q1 ⊢
    exact sb σ F1 H1 E1 _ _ I1 q1 fun u F2 H2 E2 y I2 X2 r2 q3 => k u F2 H2 E2 y I2 (X1.trans X2) r2 q3

/-! ### arguments -/
def wNil : WA := fun E Q => Q [] E
def wCons (w : WE) (ws : WA) : WA := fun E Q => w E fun x E1 => ws E1 fun xs E2 => Q (x :: xs) E2
theorem pua_nil : PUA X [] wNil := ⟨_, pa_nil, fun σ F H E Qd Q I q k => k [] F H E [] I (Ext.refl _ _ _ _) .nil q⟩
theorem pua_cons {w : WE} {ws : WA} (h : PU X e w) (hs : PUA X es ws) (hst : starEach (e :: es) X.env = (false, eval e X.env) :: starEach es X.env := by rfl) : PUA X (e :: es) (wCons w ws) := by
  obtain ⟨ta, pa, sa⟩ := h.ex
  obtain ⟨tb, pb, sb⟩ := hs.ex
  refine ⟨_, pa_cons pa pb hst, fun σ F H E Qd Q I q k => ?_⟩
  refine sa σ F H E _ _ I q fun v F1 H1 E1 x I1 X1 r1 q1 => ?_
  exact sb σ F1 H1 E1 _ _ I1 q1 fun vs F2 H2 E2 xs I2 X2 r2 q2 => k (v :: vs) F2 H2 E2 (x :: xs) I2 (X1.trans X2) (.cons (rv_ext X2.fz r1) r2) q2
/-- frozen data of a list of values -/
def frz : List VD → Option (List D)
  | [] => some []
  | .d a :: r => (frz r).map (a :: ·)
  | .own _ :: _ => none
theorem frz_dpa {K : PySem.W.Frag} {F : Hp} {σ : L2.St} : ∀ {vs : List V} {xs : List VD} {ds : List D}, RVs K F σ vs xs → frz xs = some ds → DpAll K F vs ds
  | _, _, _, .nil, h => by cases (Option.some.inj h); exact .nil
  | v :: vs, x :: xs, ds, .cons r t, h => by
    cases x with
    | own i => cases h
    | d a =>
      have h' : (frz xs).map (a :: ·) = some ds := h
      cases e : frz xs with
      | none => rw [e] at h'; cases h'
      | some es =>
        rw [e] at h'
        cases (Option.some.inj h')
        exact .cons r (frz_dpa t e)
/-- as data to be read -/
def ress (E : Env') : List VD → Option (List D)
  | [] => some []
  | x :: r => (res E x).bind fun a => (ress E r).map (a :: ·)
inductive RDs (K : PySem.W.Frag) (F H : Hp) : List V → List D → Prop where
  | nil : RDs K F H [] []
  | cons {v : V} {d : D} {vs : List V} {ds : List D} : RD K F H v d → RDs K F H vs ds → RDs K F H (v :: vs) (d :: ds)
theorem ress_rd {K : PySem.W.Frag} {F H : Hp} {σ : L2.St} {E : Env'} (I : EnvD K F H σ E) : ∀ {vs : List V} {xs : List VD} {ds : List D}, RVs K F σ vs xs → ress E xs = some ds → RDs K F H vs ds
  | _, _, _, .nil, h => by cases (Option.some.inj h); exact .nil
  | v :: vs, x :: xs, ds, .cons r t, h => by
    have h' : ((res E x).bind fun a => (ress E xs).map (a :: ·)) = some ds := h
    cases e : res E x with
    | none => rw [e] at h'; cases h'
    | some a =>
      rw [e] at h'
      have h2 : (ress E xs).map (a :: ·) = some ds := h'
      cases e2 : ress E xs with
      | none => rw [e2] at h2; cases h2
      | some es =>
        rw [e2] at h2
        cases (Option.some.inj h2)
        exact .cons (res_rd I r e) (ress_rd I t e2)
/-- a call by values: f of the data -/
abbrev FC := List D → (D → Prop) → Prop
def SndC (K : PySem.W.Frag) (r : List V → Hp → VK → Prop) (f : FC) : Prop := ∀ (vs : List V) (F H : Hp) (σ : L2.St) (E : Env') (ds : List D) (Qd : D → Prop) (Q : VK), EnvD K F H σ E → RDs K F H vs ds → f ds Qd →
  (∀ v F' H' d, EnvD K F' H' σ E → Ext F H F' H' σ E E → Dp K F' v d → Qd d → Q v H') → r vs H Q
def wCall (f : FC) (w : WA) : WE := fun E Q => w E fun xs E1 => onO (ress E1 xs) fun ds => f ds fun d => Q (.d d) E1
theorem snd_call {K : PySem.W.Frag} {r : List V → Hp → VK → Prop} {f : FC} {t : TA} {w : WA} (hr : SndC K r f) (ht : SndA K t w) : Snd K (tCB r t) (wCall f w) := by
  intro σ F H E Qd Q I q k
  refine ht σ F H E _ _ I q fun vs F1 H1 E1 xs I1 X1 r1 q1 => ?_
  obtain ⟨ds, e1, q2⟩ := onO_of q1
  exact hr vs F1 H1 σ E1 ds _ Q I1 (ress_rd I1 r1 e1) q2 fun v F2 H2 d I2 X2 r2 q3 => k v F2 H2 E1 (.d d) I2 (X1.trans X2) r2 q3
theorem pu_blt {id : String} {x : Str} {r : List V → Hp → VK → Prop} {f : FC} {w : WA} {p : Pos} (hc : CallR X (.builtin id) r) (hr : SndC X.K r f) (hg : Gl X x) (hm : X.mg x = none) (hv : bootBuiltins x = some (.builtin id)) (ha : PUA X (e :: es) w)
    (hn : x ≠ "__name__" := by decide) (hdb : (x == ("__debug__" : Str)) = false := by decide) (he : starEach (e :: es) X.env = (false, eval e X.env) :: starEach es X.env := by rfl) (hpl : (backTo pos (starEach es X.env)).any (·.1) = false := by rfl) :
    PU X (.Call (.Name x p) (e :: es) [] pos) (wCall f w) := by
  obtain ⟨t, pt, st⟩ := ha.ex
  exact ⟨_, pe_callB hc hg hm hv pt hn hdb he hpl, snd_call hr st⟩
theorem pu_ty {T : String} {x : Str} {r : List V → Hp → VK → Prop} {f : FC} {w : WA} {p : Pos} (hc : CallR X (.type T) r) (hr : SndC X.K r f) (hg : Gl X x) (hm : X.mg x = none) (hv : bootBuiltins x = some (.type T)) (ha : PUA X (e :: es) w)
    (hn : x ≠ "__name__" := by decide) (hdb : (x == ("__debug__" : Str)) = false := by decide) (he : starEach (e :: es) X.env = (false, eval e X.env) :: starEach es X.env := by rfl) (hpl : (backTo pos (starEach es X.env)).any (·.1) = false := by rfl) :
    PU X (.Call (.Name x p) (e :: es) [] pos) (wCall f w) := by
  obtain ⟨t, pt, st⟩ := ha.ex
  exact ⟨_, pe_callTy hc hg hm hv pt hn hdb he hpl, snd_call hr st⟩
end
end AF

set_option Elab.async false
set_option linter.all false
set_option maxRecDepth 100000
set_option maxHeartbeats 2000000
namespace AF
open PySem PySem.Spec PyProof.Rows L2
section
variable {X : Cx} {a b c e : Expr} {es : List Expr} {pos p2 : Pos} {K : PySem.W.Frag}

/-! ### new frozen objects -/
theorem fin_tup {F H : Hp} {σ : L2.St} {E : Env'} {vs : List V} {ds : List D} {Q : VK} (I : EnvD K F H σ E) (h : DpAll K F vs ds) (k : ∀ v F' H', EnvD K F' H' σ E → Ext F H F' H' σ E E → Dp K F' v (.tuple ds) → Q v H') : ∀ p, H p = none → Q (.ref p) (upd H p (.tup vs)) :=
  fun p hp => k _ (upd F p (.tup vs)) _ (I.lay hp) (Ext.lay I.sub hp) (.tup upd_same (dpa_same (same_upd (I.sub.free hp)) h))
theorem fin_lst {F H : Hp} {σ : L2.St} {E : Env'} {vs : List V} {ds : List D} {Q : VK} (I : EnvD K F H σ E) (h : DpAll K F vs ds) (k : ∀ v F' H', EnvD K F' H' σ E → Ext F H F' H' σ E E → Dp K F' v (.list ds) → Q v H') : ∀ p, H p = none → Q (.ref p) (upd H p (.lst vs)) :=
  fun p hp => k _ (upd F p (.lst vs)) _ (I.lay hp) (Ext.lay I.sub hp) (.lst upd_same (dpa_same (same_upd (I.sub.free hp)) h))
def wTup (w : WA) : WE := fun E Q => w E fun xs E1 => onO (frz xs) fun ds => ds.length ≤ 1000 ∧ Q (.d (.tuple ds)) E1
def wLst (w : WA) : WE := fun E Q => w E fun xs E1 => onO (frz xs) fun ds => ds.length ≤ 1000 ∧ Q (.d (.list ds)) E1
theorem line1000 {n : Nat} (h : n ≤ 1000) : n ≤ sizeLine := Nat.le_trans h (by decide)
theorem pu_tup {j : Nat} {w : WA} (h : PUA X es w) : PU X (.Tuple es j pos) (wTup w) := by
  obtain ⟨t, p, s⟩ := h.ex
  refine ⟨_, pe_tup p, fun σ F H E Qd Q I q k => ?_⟩
  refine s σ F H E _ _ I q fun vs F1 H1 E1 xs I1 X1 r1 q1 => ?_
  obtain ⟨ds, e1, hl, q2⟩ := onO_of q1
  have hd := frz_dpa r1 e1
  exact ⟨line1000 (by rw [dpa_len hd]; exact hl), fin_tup I1 hd fun v F2 H2 I2 X2 r2 => k v F2 H2 E1 (.d (.tuple ds)) I2 (X1.trans X2) r2 q2⟩
theorem pu_lst {w : WA} (h : PUA X es w) : PU X (.List es pos) (wLst w) := by
  obtain ⟨t, p, s⟩ := h.ex
  refine ⟨_, pe_lst p, fun σ F H E Qd Q I q k => ?_⟩
  refine s σ F H E _ _ I q fun vs F1 H1 E1 xs I1 X1 r1 q1 => ?_
  obtain ⟨ds, e1, hl, q2⟩ := onO_of q1
  have hd := frz_dpa r1 e1
  exact ⟨line1000 (by rw [dpa_len hd]; exact hl), fin_lst I1 hd fun v F2 H2 I2 X2 r2 => k v F2 H2 E1 (.d (.list ds)) I2 (X1.trans X2) r2 q2⟩

/-! ### ints -/
def onI (d : D) (k : Int → Prop) : Prop := match d with
  | .int i => k i
  | _ => False
theorem onI_of {d : D} {k : Int → Prop} (h : onI d k) : ∃ i, d = .int i ∧ k i := by
  cases d <;> first | exact ⟨_, rfl, h⟩ | exact h.elim
def fI (g : Int → Int → Int) : F2 := fun a b k => onI a fun i => onI b fun j => k (.int (g i j))
def fB (g : Int → Int → Bool) : F2 := fun a b k => onI a fun i => onI b fun j => k (.bool (g i j))
def fIC (C : Int → Int → Prop) (g : Int → Int → Int) : F2 := fun a b k => onI a fun i => onI b fun j => C i j ∧ k (.int (g i j))
theorem sr_i {g : Int → Int → Int} : SndR K (rI0 fun i j => .int (g i j)) (fI g) := sndR_pure fun x y F H a b Qd Q s h1 h2 h k => by
  obtain ⟨i, rfl, h⟩ := onI_of (d := a) h
  obtain ⟨j, rfl, h⟩ := onI_of (d := b) h
  cases h1
  cases h2
  exact ⟨i, j, rfl, rfl, k _ _ (fun _ => .int _) h⟩
theorem sr_b {g : Int → Int → Bool} : SndR K (rI0 fun i j => .bl (g i j)) (fB g) := sndR_pure fun x y F H a b Qd Q s h1 h2 h k => by
  obtain ⟨i, rfl, h⟩ := onI_of (d := a) h
  obtain ⟨j, rfl, h⟩ := onI_of (d := b) h
  cases h1
  cases h2
  exact ⟨i, j, rfl, rfl, k _ _ (fun _ => .bl _) h⟩
theorem sr_iC {C : Int → Int → Prop} {g : Int → Int → Int} : SndR K (rI C fun i j => .int (g i j)) (fIC C g) := sndR_pure fun x y F H a b Qd Q s h1 h2 h k => by
  obtain ⟨i, rfl, h⟩ := onI_of (d := a) h
  obtain ⟨j, rfl, hc, h⟩ := onI_of (d := b) h
  cases h1
  cases h2
  exact ⟨i, j, rfl, rfl, hc, k _ _ (fun _ => .int _) h⟩
def wNeg (w : WE) : WE := fun E Q => w E fun x E1 => onD x fun d => onI d fun i => Q (.d (.int (-i))) E1
theorem pu_neg {w : WE} (h : PU X a w) : PU X (.UnaryOp .USub a pos) (wNeg w) := by
  obtain ⟨t, p, s⟩ := h.ex
  refine ⟨_, pe_un un_neg p, fun σ F H E Qd Q I q k => ?_⟩
  refine s σ F H E _ _ I q fun v F1 H1 E1 x I1 X1 r1 q1 => ?_
  obtain ⟨d, rfl, q2⟩ := onD_of q1
  obtain ⟨i, rfl, q3⟩ := onI_of q2
  cases dp_int r1
  exact ⟨i, rfl, k _ F1 H1 E1 (.d (.int (-i))) I1 X1 (Dp.int _) q3⟩
theorem pu_add {wa wb : WE} (ha : PU X a wa) (hb : PU X b wb) : PU X (.BinOp a .Add b pos) (wBin (fI fun i j => i + j) wa wb) := pu_op op_add sr_i ha hb
theorem pu_sub {wa wb : WE} (ha : PU X a wa) (hb : PU X b wb) : PU X (.BinOp a .Sub b pos) (wBin (fI fun i j => i - j) wa wb) := pu_op op_sub sr_i ha hb

/-! ### == of scalars, of data -/
def eqS : D → D → Option Bool
  | .none, .none => some true
  | .none, .bool _ => some false
  | .none, .int _ => some false
  | .none, .str _ => some false
  | .bool _, .none => some false
  | .bool a, .bool b => some (a == b)
  | .bool _, .str _ => some false
  | .int _, .none => some false
  | .int i, .int j => some (i == j)
  | .int _, .str _ => some false
  | .str _, .none => some false
  | .str _, .bool _ => some false
  | .str _, .int _ => some false
  | .str a, .str b => some (a == b)
  | _, _ => none
def fEqS : F2 := fun a b k => onO (eqS a b) fun z => k (.bool z)
def fNeS : F2 := fun a b k => onO (eqS a b) fun z => k (.bool (!z))
theorem eqS_ok {H : Hp} {x y : V} {a b : D} {z : Bool} (h1 : Dp K H x a) (h2 : Dp K H y b) (h : eqS a b = some z) : scal x y = true ∧ decide (x = y) = z := by
  cases h1 <;> cases h2 <;> first
    | (refine ⟨rfl, ?_⟩
       have h := Option.some.inj h
       subst h
       first
         | rfl
         | (rename_i u v; by_cases q : u = v
            · subst q; simp
            · simp [q]))
    | (exfalso; cases h)
theorem sr_eq : SndR K rEq fEqS := sndR_pure fun x y F H a b Qd Q s h1 h2 h k => by
  obtain ⟨z, e, h⟩ := onO_of h
  obtain ⟨q1, q2⟩ := eqS_ok h1 h2 e
  exact ⟨q1, k _ (.bool _) (fun _ => .bl _) (by rw [q2]; exact h)⟩
theorem sr_ne : SndR K rNe fNeS := sndR_pure fun x y F H a b Qd Q s h1 h2 h k => by
  obtain ⟨z, e, h⟩ := onO_of h
  obtain ⟨q1, q2⟩ := eqS_ok h1 h2 e
  exact ⟨q1, k _ (.bool _) (fun _ => .bl _) (by rw [q2]; exact h)⟩
def fEqD : F2 := fun a b k => SeqAt.shaped a = true ∧ SeqAt.shaped b = true ∧ k (.bool (PyData.eqv a b))
def fNeD : F2 := fun a b k => SeqAt.shaped a = true ∧ SeqAt.shaped b = true ∧ k (.bool (!PyData.eqv a b))
theorem sr_eqD : SndR K (rEqD K) fEqD := sndR_pure fun x y F H a b Qd Q s h1 h2 ⟨q1, q2, h⟩ k => ⟨a, b, h1.old q1, h2.old q2, q1, q2, k _ _ (fun _ => .bl _) h⟩
theorem sr_neD : SndR K (rNeD K) fNeD := sndR_pure fun x y F H a b Qd Q s h1 h2 ⟨q1, q2, h⟩ k => ⟨a, b, h1.old q1, h2.old q2, q1, q2, k _ _ (fun _ => .bl _) h⟩

/-! ### texts -/
def fInSign : F2 := fun a b k => match a, b with
  | .str x, .str z => ∃ c, x = ⟨#[c]⟩ ∧ k (.bool (decide (c ∈ z.cps.toList)))
  | _, _ => False
theorem sr_in_sign : SndR K (fun x y H Q => ∃ (c : Nat) (z : Str), x = .str ⟨#[c]⟩ ∧ y = .str z ∧ Q (.bl (decide (c ∈ z.cps.toList))) H) fInSign := sndR_pure fun x y F H a b Qd Q s h1 h2 h k => by
  cases h1 <;> first | exact False.elim h | skip
  cases h2 <;> first | exact False.elim h | skip
  obtain ⟨c, rfl, h⟩ := h
  exact ⟨c, _, rfl, rfl, k _ _ (fun _ => .bl _) h⟩
def fLtS (g : Str → Str → Bool) : F2 := fun a b k => match a, b with
  | .str x, .str z => k (.bool (g x z))
  | _, _ => False
theorem sr_ltS {g : Str → Str → Bool} : SndR K (fun x y H Q => ∃ i j, x = .str i ∧ y = .str j ∧ Q (.bl (g i j)) H) (fLtS g) := sndR_pure fun x y F H a b Qd Q s h1 h2 h k => by
  cases h1 <;> first | exact False.elim h | skip
  cases h2 <;> first | exact False.elim h | skip
  exact ⟨_, _, rfl, rfl, k _ _ (fun _ => .bl _) h⟩

/-! ### subscripts -/
theorem atI_dpa {H : Hp} {vs : List V} {ds : List D} {i : Int} {d : D} (h : DpAll K H vs ds) (e : atI ds i = some d) : ∃ v, atI vs i = some v ∧ Dp K H v d := by
  unfold atI at e ⊢
  rw [dpa_len h]
  cases q : ixN ds.length i with
  | none => rw [q] at e; cases e
  | some j =>
    rw [q] at e
    have e : ds[j]? = some d := e
    obtain ⟨v, e1, e2⟩ := dpa_get h e
    exact ⟨v, e1, e2⟩
/-- the script's ints -/
def scrI : List (D × D) → Option (List Int)
  | [] => some []
  | (.int n, .none) :: r => (scrI r).map (n :: ·)
  | _ => none
theorem scrI_map : ∀ ns : List Int, scrI (ns.map fun n => ((PyData.int n, PyData.none) : D × D)) = some ns
  | [] => rfl
  | n :: r => by
    show (scrI (r.map fun n => ((PyData.int n, PyData.none) : D × D))).map (n :: ·) = _
    rw [scrI_map r]
    rfl
def fIx : F2 := fun a b k => match a, b with
  | .tuple xs, .int i => onO (atI xs i) k
  | .list xs, .int i => onO (atI xs i) k
  | .dict xs, .int i => onO (scrI xs) fun ns => onO (atI ns i) fun n => k (.int n)
  | _, _ => False
theorem atI_map {α β : Type} (f : α → β) (xs : List α) (i : Int) : atI (xs.map f) i = (atI xs i).map f := by
  unfold atI
  rw [List.length_map]
  cases ixN xs.length i with
  | none => rfl
  | some j => show (xs.map f)[j]? = (xs[j]?).map f; rw [List.getElem?_map]
theorem sr_ix : SndR K (fun x y H Q => rIxL K x y H Q ∨ rIxT K x y H Q) fIx := by
  intro x y F H σ E a b Qd Q I h1 h2 h k
  have hb := h2.dp I.sub
  cases a with
  | tuple xs =>
    cases hb <;> first | exact False.elim h | skip
    rename_i i
    obtain ⟨d, e, h⟩ := onO_of (show onO (atI xs i) Qd from h)
    obtain ⟨p, vs, rfl, hs, ha⟩ := h1.tup I.sub
    obtain ⟨v, e1, e2⟩ := atI_dpa ha e
    exact .inr ⟨p, vs, i, v, rfl, rfl, sqT_of (I.sub _ _ hs), e1, k v F H d I (Ext.refl _ _ _ _) e2 h⟩
  | list xs =>
    cases hb <;> first | exact False.elim h | skip
    rename_i i
    obtain ⟨d, e, h⟩ := onO_of (show onO (atI xs i) Qd from h)
    obtain ⟨p, vs, rfl, hs, ha⟩ := h1.list I.sub
    obtain ⟨v, e1, e2⟩ := atI_dpa ha e
    exact .inl ⟨p, vs, i, v, rfl, rfl, hs, e1, k v F H d I (Ext.refl _ _ _ _) e2 h⟩
  | dict xs =>
    cases hb <;> first | exact False.elim h | skip
    rename_i i
    obtain ⟨ms, e0, hA⟩ := onO_of (show onO (scrI xs) (fun ns => onO (atI ns i) fun n => Qd (.int n)) from h)
    obtain ⟨d, e, hB⟩ := onO_of hA
    have g2 := h1.dp I.sub
    cases g2 with
    | scr hs =>
      rename_i p ns
      rw [scrI_map] at e0
      cases Option.some.inj e0
      exact .inl ⟨p, _, i, .int d, rfl, rfl, hs, by rw [atI_map, e]; rfl, k _ F H (.int d) I (Ext.refl _ _ _ _) (.int d) hB⟩
    | emp hs => cases e0
  | _ => exact False.elim h
theorem pu_ix {wa wb : WE} (ha : PU X a wa) (hb : PU X b wb) (hs : PlainIx b := by intro _ _; rfl) : PU X (.Subscript a b pos) (wBin fIx wa wb) := by
  obtain ⟨ta, pa, sa⟩ := ha.ex
  obtain ⟨tb, pb, sb⟩ := hb.ex
  exact ⟨_, pe_ix (ix_list.or ix_tup) pa pb hs, snd_bin sr_ix sa sb⟩

/-! ### slices of tuples -/
abbrev WO := Env' → (Option Int → Env' → Prop) → Prop
def SndO (K : PySem.W.Frag) (t : TO) (w : WO) : Prop := ∀ (σ : L2.St) (F H : Hp) (E : Env') (Qd : Option Int → Env' → Prop) (Q : Option Int → Hp → Prop), EnvD K F H σ E → w E Qd →
  (∀ b F' H' E', EnvD K F' H' σ E' → Ext F H F' H' σ E E' → Qd b E' → Q b H') → t σ H Q
structure PUO (X : Cx) (e : Option Expr) (w : WO) : Prop where
  ex : ∃ t, PO X e t ∧ SndO X.K t w
def wNoPart : WO := fun E Q => Q none E
def wPart (w : WE) : WO := fun E Q => w E fun x E1 => onD x fun d => onI d fun i => Q (some i) E1
theorem puo_none : PUO X none wNoPart := ⟨_, po_none, fun σ F H E Qd Q I q k => k none F H E I (Ext.refl _ _ _ _) q⟩
theorem puo_some {w : WE} (h : PU X e w) : PUO X (some e) (wPart w) := by
  obtain ⟨t, p, s⟩ := h.ex
  refine ⟨_, po_some p, fun σ F H E Qd Q I q k => ?_⟩
  refine s σ F H E _ _ I q fun v F1 H1 E1 x I1 X1 r1 q1 => ?_
  obtain ⟨d, rfl, q2⟩ := onD_of q1
  obtain ⟨i, rfl, q3⟩ := onI_of q2
  cases dp_int r1
  exact ⟨i, rfl, k (some i) F1 H1 E1 I1 X1 q3⟩
def cutD (xs : List D) (lo hi : Option Int) : List D := (xs.drop (HT.sIx xs.length 0 lo)).take (HT.sIx xs.length xs.length hi - HT.sIx xs.length 0 lo)
def wSlT (we : WE) (wl wh : WO) : WE := fun E Q => we E fun x E1 => wl E1 fun l E2 => wh E2 fun h E3 => onD x fun d => match d with
  | .tuple xs => Q (.d (.tuple (cutD xs l h))) E3
  | _ => False
theorem pu_slT {lo hi : Option Expr} {we : WE} {wl wh : WO} (he : PU X e we) (hl : PUO X lo wl) (hh : PUO X hi wh) : PU X (.Subscript e (.Slice lo hi none p2) pos) (wSlT we wl wh) := by
  obtain ⟨te, pe, se⟩ := he.ex
  obtain ⟨tl, pl, sl⟩ := hl.ex
  obtain ⟨th, ph, sh⟩ := hh.ex
  refine ⟨_, pe_slice sl_tupA pe pl ph, fun σ F H E Qd Q I q k => ?_⟩
  refine se σ F H E _ _ I q fun v F1 H1 E1 x I1 X1 r1 q1 => ?_
  refine sl σ F1 H1 E1 _ _ I1 q1 fun l F2 H2 E2 I2 X2 q2 => ?_
  refine sh σ F2 H2 E2 _ _ I2 q2 fun h F3 H3 E3 I3 X3 q3 => ?_
  obtain ⟨d, rfl, q4⟩ := onD_of q3
  have r3 : Dp X.K F3 v d := rv_ext (x := .d d) (X2.fz.trans X3.fz) r1
  cases r3 <;> first | exact False.elim q4 | skip
  rename_i p vs ds hs ha
  have hln := dpa_len ha
  refine ⟨p, vs, rfl, sqT_of (I3.sub _ _ hs), fun hw => ?_, fun hw => ?_⟩
  · have e : cutD ds l h = ds := by
      unfold cutD
      rw [← hln, hw.1, hw.2, List.drop_zero, hln, Nat.sub_zero, List.take_length]
    refine k _ F3 H3 E3 (.d (.tuple ds)) I3 ((X1.trans X2).trans X3) (Dp.tup hs ha) ?_
    have q4 : Qd (.d (.tuple (cutD ds l h))) E3 := q4
    rw [e] at q4
    exact q4
  · have hc : DpAll X.K F3 (cutV vs l h) (cutD ds l h) := by
      unfold cutV cutD
      rw [hln]
      exact dpa_take _ (dpa_drop _ ha)
    exact fin_tup I3 hc fun v F4 H4 I4 X4 r4 => k v F4 H4 E3 (.d (.tuple (cutD ds l h))) I4 (((X1.trans X2).trans X3).trans X4) r4 q4

/-! ### tuple + tuple -/
def fCat : F2 := fun a b k => match a, b with
  | .tuple xs, .tuple ys => xs.length + ys.length ≤ 1000000 ∧ k (.tuple (xs ++ ys))
  | _, _ => False
theorem line1m {n : Nat} (h : n ≤ 1000000) : n ≤ sizeLine := Nat.le_trans h (by decide)
theorem sr_cat : SndR K (rCatA K) fCat := by
  intro x y F H σ E a b Qd Q I h1 h2 h k
  cases a <;> first | exact False.elim h | skip
  rename_i xs
  cases b <;> first | exact False.elim h | skip
  rename_i ys
  obtain ⟨hz, h⟩ := h
  rcases h1 with h1 | ⟨_, _, _, _, e, _⟩
  case inr => cases e
  rcases h2 with h2 | ⟨_, _, _, _, e, _⟩
  case inr => cases e
  cases h1 with
  | tup hs1 ha1 =>
  cases h2 with
  | tup hs2 ha2 =>
  rename_i p vs q us
  have l1 := dpa_len ha1
  have l2 := dpa_len ha2
  refine ⟨p, q, vs, us, rfl, rfl, sqT_of (I.sub _ _ hs1), sqT_of (I.sub _ _ hs2), line1m (by rw [l1, l2]; exact hz), fun e => ?_, fun _ e => ?_, fun _ _ => ?_⟩
  · subst e
    cases dpa_nil ha1
    exact k _ F H _ I (Ext.refl _ _ _ _) (.tup hs2 ha2) h
  · subst e
    cases dpa_nil ha2
    rw [List.append_nil] at h
    exact k _ F H _ I (Ext.refl _ _ _ _) (.tup hs1 ha1) h
  · exact fin_tup I (dpa_append ha1 ha2) fun v F' H' I' X' r' => k v F' H' _ I' X' r' h

/-! ### list + list -/
def fCatL : F2 := fun a b k => match a, b with
  | .list xs, .list ys => xs.length + ys.length ≤ 1000000 ∧ k (.list (xs ++ ys))
  | _, _ => False
theorem sr_catL : SndR K rCat fCatL := by
  intro x y F H σ E a b Qd Q I h1 h2 h k
  cases a <;> first | exact False.elim h | skip
  rename_i xs
  cases b <;> first | exact False.elim h | skip
  rename_i ys
  obtain ⟨hz, h⟩ := h
  obtain ⟨p, vs, rfl, hp, a1⟩ := h1.listT I.sub
  obtain ⟨q, us, rfl, hq, a2⟩ := h2.listT I.sub
  exact ⟨p, q, vs, us, rfl, rfl, hp, hq, line1m (by rw [dpa_len a1, dpa_len a2]; exact hz), fin_lst I (dpa_append a1 a2) fun v F' H' I' X' r' => k v F' H' _ I' X' r' h⟩

/-! ### isinstance -/
def tyN : D → String
  | .none => "NoneType"
  | .bool _ => "bool"
  | .int _ => "int"
  | .str _ => "str"
  | .list _ => "list"
  | .tuple _ => "tuple"
  | .dict ((.bool _, _) :: _) => "dict"
  | .dict _ => "list"
theorem dp_ty {H : Hp} {v : V} {d : D} (h : Dp K H v d) : TyX K H v (.type (tyN d)) := by
  cases h with
  | non => exact .base .non
  | bl b => exact .base (.bl b)
  | int b => exact .base (.int b)
  | str b => exact .base (.str b)
  | lst hs ha => exact .base (.lst hs)
  | @scr a ns hs =>
    have e : tyN (.dict (ns.map fun n => (.int n, .none))) = "list" := by cases ns <;> rfl
    rw [e]
    rcases hs with (h | ⟨o, h⟩) | ⟨o, its, n, h1, h2, _⟩
    · exact .base (.lst h)
    · exact .base (.frz h)
    · exact .kList h1 h2
  | tup hs ha => exact .base (.tup hs)
  | emp hs => exact .base (.dK hs)
def isInt : D → Bool
  | .int _ => true
  | .bool _ => true
  | _ => false
def isBool : D → Bool
  | .bool _ => true
  | _ => false
def isStr : D → Bool
  | .str _ => true
  | _ => false
def isTuple : D → Bool
  | .tuple _ => true
  | _ => false
def isList : D → Bool
  | .list _ => true
  | .dict ((.bool _, _) :: _) => false
  | .dict _ => true
  | _ => false
def IsK (T : String) (g : D → Bool) : Prop := ∀ d, kitB (tyN d) T = some (g d)
def isDct : D → Bool
  | .dict ((.bool _, _) :: _) => true
  | _ => false
theorem isk_of {T : String} {g : D → Bool} (b0 b1 b2 b3 b4 b5 b6 : Bool) (h0 : kitB "NoneType" T = some b0) (h1 : kitB "bool" T = some b1) (h2 : kitB "int" T = some b2) (h3 : kitB "str" T = some b3) (h4 : kitB "list" T = some b4) (h5 : kitB "tuple" T = some b5) (h6 : kitB "dict" T = some b6)
    (e : ∀ d, g d = match d with | .none => b0 | .bool _ => b1 | .int _ => b2 | .str _ => b3 | .list _ => b4 | .tuple _ => b5 | .dict ((.bool _, _) :: _) => b6 | .dict _ => b4) : IsK T g := fun d => by
  rw [e]
  cases d <;> first | assumption | skip
  rename_i l
  match l with
  | [] => exact h4
  | (.bool _, _) :: _ => exact h6
  | (.none, _) :: _ => exact h4
  | (.int _, _) :: _ => exact h4
  | (.str _, _) :: _ => exact h4
  | (.list _, _) :: _ => exact h4
  | (.tuple _, _) :: _ => exact h4
  | (.dict _, _) :: _ => exact h4
theorem isk_e {g : D → Bool} {b0 b1 b2 b3 b4 b5 b6 : Bool} (h0 : g .none = b0) (h1 : ∀ b, g (.bool b) = b1) (h2 : ∀ b, g (.int b) = b2) (h3 : ∀ b, g (.str b) = b3) (h4 : ∀ b, g (.list b) = b4) (h5 : ∀ b, g (.tuple b) = b5) (h6 : ∀ b c l, g (.dict ((.bool b, c) :: l)) = b6) (h7 : ∀ l, isDct (.dict l) = false → g (.dict l) = b4) :
    ∀ d, g d = match d with | .none => b0 | .bool _ => b1 | .int _ => b2 | .str _ => b3 | .list _ => b4 | .tuple _ => b5 | .dict ((.bool _, _) :: _) => b6 | .dict _ => b4 := fun d => by
  cases d with
  | none => exact h0
  | bool b => exact h1 b
  | int b => exact h2 b
  | str b => exact h3 b
  | list b => exact h4 b
  | tuple b => exact h5 b
  | dict l =>
    match l with
    | [] => exact h7 _ rfl
    | (.bool _, _) :: _ => exact h6 _ _ _
    | (.none, _) :: _ => exact h7 _ rfl
    | (.int _, _) :: _ => exact h7 _ rfl
    | (.str _, _) :: _ => exact h7 _ rfl
    | (.list _, _) :: _ => exact h7 _ rfl
    | (.tuple _, _) :: _ => exact h7 _ rfl
    | (.dict _, _) :: _ => exact h7 _ rfl
theorem isList_of {l : List (D × D)} (h : isDct (.dict l) = false) : isList (.dict l) = true := by
  match l with
  | [] => rfl
  | (.bool _, _) :: _ => cases h
  | (.none, _) :: _ => rfl
  | (.int _, _) :: _ => rfl
  | (.str _, _) :: _ => rfl
  | (.list _, _) :: _ => rfl
  | (.tuple _, _) :: _ => rfl
  | (.dict _, _) :: _ => rfl
theorem isk_int : IsK "int" isInt := isk_of false true true false false false false (by decide +kernel) (by decide +kernel) (by decide +kernel) (by decide +kernel) (by decide +kernel) (by decide +kernel) (by decide +kernel) (isk_e rfl (fun _ => rfl) (fun _ => rfl) (fun _ => rfl) (fun _ => rfl) (fun _ => rfl) (fun _ _ _ => rfl) (fun _ _ => rfl))
theorem isk_bool : IsK "bool" isBool := isk_of false true false false false false false (by decide +kernel) (by decide +kernel) (by decide +kernel) (by decide +kernel) (by decide +kernel) (by decide +kernel) (by decide +kernel) (isk_e rfl (fun _ => rfl) (fun _ => rfl) (fun _ => rfl) (fun _ => rfl) (fun _ => rfl) (fun _ _ _ => rfl) (fun _ _ => rfl))
theorem isk_str : IsK "str" isStr := isk_of false false false true false false false (by decide +kernel) (by decide +kernel) (by decide +kernel) (by decide +kernel) (by decide +kernel) (by decide +kernel) (by decide +kernel) (isk_e rfl (fun _ => rfl) (fun _ => rfl) (fun _ => rfl) (fun _ => rfl) (fun _ => rfl) (fun _ _ _ => rfl) (fun _ _ => rfl))
theorem isk_tuple : IsK "tuple" isTuple := isk_of false false false false false true false (by decide +kernel) (by decide +kernel) (by decide +kernel) (by decide +kernel) (by decide +kernel) (by decide +kernel) (by decide +kernel) (isk_e rfl (fun _ => rfl) (fun _ => rfl) (fun _ => rfl) (fun _ => rfl) (fun _ => rfl) (fun _ _ _ => rfl) (fun _ _ => rfl))
theorem isk_list : IsK "list" isList := isk_of false false false false true false false (by decide +kernel) (by decide +kernel) (by decide +kernel) (by decide +kernel) (by decide +kernel) (by decide +kernel) (by decide +kernel) (isk_e rfl (fun _ => rfl) (fun _ => rfl) (fun _ => rfl) (fun _ => rfl) (fun _ => rfl) (fun _ _ _ => rfl) (fun _ h => isList_of h))
def wIs (g : D → Bool) (w : WE) : WE := fun E Q => w E fun x E1 => onD x fun d => Q (.d (.bool (g d))) E1
theorem pu_is {T : String} {x y : Str} {g : D → Bool} {w : WE} {p p' : Pos} (hk : IsK T g) (hg : Gl X x) (hm : X.mg x = none) (hv : bootBuiltins x = some (.builtin "isinstance")) (hg' : Gl X y) (hm' : X.mg y = none) (hv' : bootBuiltins y = some (.type T)) (ha : PU X a w)
    (hn : x ≠ "__name__" := by decide) (hdb : (x == ("__debug__" : Str)) = false := by decide) (hn' : y ≠ "__name__" := by decide) (hdb' : (y == ("__debug__" : Str)) = false := by decide)
    (he : starEach [a, .Name y p'] X.env = (false, eval a X.env) :: starEach [.Name y p'] X.env := by rfl) (he2 : starEach [.Name y p'] X.env = (false, eval (.Name y p') X.env) :: starEach [] X.env := by rfl) (hpl : (backTo pos (starEach [.Name y p'] X.env)).any (·.1) = false := by rfl) :
    PU X (.Call (.Name x p) [a, .Name y p'] [] pos) (wIs g w) := by
  obtain ⟨t, pt, st⟩ := ha.ex
  have pn : PE X (.Name y p') (tC (.ty T)) := pe_bltn (v := .ty T) hg' hm' hv' rfl hn' hdb'
  refine ⟨_, pe_callB call_isi hg hm hv (pa_cons pt (pa_cons pn pa_nil he2) he) hn hdb he hpl, fun σ F H E Qd Q I q k => ?_⟩
  refine st σ F H E _ _ I q fun v F1 H1 E1 x I1 X1 r1 q1 => ?_
  obtain ⟨d, rfl, q2⟩ := onD_of q1
  exact ⟨v, .ty T, _, _, g d, rfl, .ty T, dp_ty (dp_same I1.sub r1), kit_ty (hk d), k _ F1 H1 E1 (.d (.bool (g d))) I1 X1 (Dp.bl _) q2⟩

/-! ### len, all, any, tuple, list, max, min, abs, int -/
def fLen : FC := fun ds k => match ds with
  | [.list l] => k (.int l.length)
  | [.tuple l] => k (.int l.length)
  | [.str x] => x.length ≤ sizeLine ∧ k (.int x.length)
  | [.dict l] => onO (scrI l) fun ns => k (.int ns.length)
  | _ => False
theorem RDs.one {F H : Hp} {vs : List V} {d : D} (h : RDs K F H vs [d]) : ∃ v, vs = [v] ∧ RD K F H v d := by
  cases h with
  | cons h1 h2 => cases h2; exact ⟨_, rfl, h1⟩
theorem RDs.two {F H : Hp} {vs : List V} {d d' : D} (h : RDs K F H vs [d, d']) : ∃ v v', vs = [v, v'] ∧ RD K F H v d ∧ RD K F H v' d' := by
  cases h with
  | cons h1 h2 => cases h2 with
    | cons h2 h3 => cases h3; exact ⟨_, _, rfl, h1, h2⟩
theorem sc_len : SndC K (fun xs H Q => ∃ x n, xs = [x] ∧ LenV K x H n ∧ Q (.int n) H) fLen := by
  intro vs F H σ E ds Qd Q I h q k
  match ds, q with
  | [.list l], q =>
    obtain ⟨v, rfl, g1⟩ := h.one
    obtain ⟨p, xs, rfl, hs, ha⟩ := g1.list I.sub
    exact ⟨_, xs.length, rfl, .inl ⟨xs, hs, rfl⟩, k _ F H (.int l.length) I (Ext.refl _ _ _ _) (by rw [dpa_len ha]; exact .int _) q⟩
  | [.tuple l], q =>
    obtain ⟨v, rfl, g1⟩ := h.one
    obtain ⟨p, xs, rfl, hs, ha⟩ := g1.tup I.sub
    exact ⟨_, xs.length, rfl, .inr ⟨xs, sqT_of (I.sub _ _ hs), rfl⟩, k _ F H (.int l.length) I (Ext.refl _ _ _ _) (by rw [dpa_len ha]; exact .int _) q⟩
  | [.str x], q =>
    obtain ⟨v, rfl, g1⟩ := h.one
    cases g1.dp I.sub
    exact ⟨_, x.length, rfl, ⟨q.1, rfl⟩, k _ F H (.int x.length) I (Ext.refl _ _ _ _) (.int _) q.2⟩
  | [.dict l], q =>
    obtain ⟨v, rfl, g1⟩ := h.one
    have g2 := g1.dp I.sub
    cases g2 with
    | scr hs =>
      rename_i p ns
      obtain ⟨ms, e0, q⟩ := onO_of (show onO (scrI (ns.map fun n => ((PyData.int n, PyData.none) : D × D))) (fun ns => Qd (.int ns.length)) from q)
      rw [scrI_map] at e0
      cases Option.some.inj e0
      exact ⟨_, ns.length, rfl, .inl ⟨_, hs, by rw [List.length_map]⟩, k _ F H (.int ns.length) I (Ext.refl _ _ _ _) (.int _) q⟩
    | emp hs => exact (onO_of (show onO (scrI [(.bool true, .none)]) (fun ns => Qd (.int ns.length)) from q)).elim fun ms z => by cases z.1
def bools : List D → Option (List Bool)
  | [] => some []
  | .bool b :: r => (bools r).map (b :: ·)
  | _ :: _ => none
theorem bools_ok : ∀ {ds : List D} {bs : List Bool}, bools ds = some bs → ds = bs.map .bool
  | [], _, h => by cases Option.some.inj h; rfl
  | d :: ds, bs, h => by
    cases d <;> first | cases h | skip
    rename_i b
    have h : (bools ds).map (b :: ·) = some bs := h
    cases e : bools ds with
    | none => rw [e] at h; cases h
    | some cs =>
      rw [e] at h
      cases Option.some.inj h
      rw [bools_ok e]
      rfl
theorem dpa_bools {H : Hp} : ∀ {bs : List Bool} {vs : List V}, DpAll K H vs (bs.map .bool) → vs = bs.map V.bl
  | [], _, h => by cases h; rfl
  | b :: bs, _, h => by
    cases h with
    | cons h1 h2 => cases h1; rw [dpa_bools h2]; rfl
def fAll (g : List Bool → Bool) : FC := fun ds k => match ds with
  | [.list l] => onO (bools l) fun bs => k (.bool (g bs))
  | _ => False
theorem sc_all : SndC K (rAll K) (fAll fun bs => bs.all id) := by
  intro vs F H σ E ds Qd Q I h q k
  match ds, q with
  | [.list l], q =>
    obtain ⟨bs, e, q2⟩ := onO_of (show onO (bools l) _ from q)
    cases bools_ok e
    obtain ⟨v, rfl, g1⟩ := h.one
    obtain ⟨p, xs, rfl, hs, ha⟩ := g1.list I.sub
    cases dpa_bools ha
    exact ⟨p, bs, rfl, hs, k _ F H (.bool _) I (Ext.refl _ _ _ _) (.bl _) q2⟩
theorem sc_any : SndC K (rAny K) (fAll fun bs => bs.any id) := by
  intro vs F H σ E ds Qd Q I h q k
  match ds, q with
  | [.list l], q =>
    obtain ⟨bs, e, q2⟩ := onO_of (show onO (bools l) _ from q)
    cases bools_ok e
    obtain ⟨v, rfl, g1⟩ := h.one
    obtain ⟨p, xs, rfl, hs, ha⟩ := g1.list I.sub
    cases dpa_bools ha
    exact ⟨p, bs, rfl, hs, k _ F H (.bool _) I (Ext.refl _ _ _ _) (.bl _) q2⟩
def fTuple : FC := fun ds k => match ds with
  | [.list l] => k (.tuple l)
  | [.tuple l] => k (.tuple l)
  | _ => False
theorem sc_tuple : SndC K (fun xs H Q => ∃ p ys, xs = [.ref p] ∧ ((SqL K H p ys ∧ ∀ l, H l = none → Q (.ref l) (upd H l (.tup ys))) ∨ (SqT K H p ys ∧ Q (.ref p) H))) fTuple := by
  intro vs F H σ E ds Qd Q I h q k
  match ds, q with
  | [.list l], q =>
    obtain ⟨v, rfl, g1⟩ := h.one
    obtain ⟨p, xs, rfl, hs, ha⟩ := g1.list I.sub
    exact ⟨p, xs, rfl, .inl ⟨hs, fin_tup I ha fun v F' H' I' X' r' => k v F' H' (.tuple l) I' X' r' q⟩⟩
  | [.tuple l], q =>
    obtain ⟨v, rfl, g1⟩ := h.one
    obtain ⟨p, xs, rfl, hs, ha⟩ := g1.tup I.sub
    refine ⟨p, xs, rfl, .inr ⟨sqT_of (I.sub _ _ hs), ?_⟩⟩
    rcases g1 with g1 | ⟨_, _, _, _, e, _⟩
    · exact k _ F H (.tuple l) I (Ext.refl _ _ _ _) g1 q
    · cases e
def fList : FC := fun ds k => match ds with
  | [.list l] => k (.list l)
  | [.tuple l] => k (.list l)
  | _ => False
theorem sc_list : SndC K (fun xs H Q => ∃ p ys, xs = [.ref p] ∧ (SqL K H p ys ∨ SqT K H p ys) ∧ ∀ l, H l = none → Q (.ref l) (upd H l (.lst ys))) fList := by
  intro vs F H σ E ds Qd Q I h q k
  match ds, q with
  | [.list l], q =>
    obtain ⟨v, rfl, g1⟩ := h.one
    obtain ⟨p, xs, rfl, hs, ha⟩ := g1.list I.sub
    exact ⟨p, xs, rfl, .inl hs, fin_lst I ha fun v F' H' I' X' r' => k v F' H' (.list l) I' X' r' q⟩
  | [.tuple l], q =>
    obtain ⟨v, rfl, g1⟩ := h.one
    obtain ⟨p, xs, rfl, hs, ha⟩ := g1.tup I.sub
    exact ⟨p, xs, rfl, .inr (sqT_of (I.sub _ _ hs)), fin_lst I ha fun v F' H' I' X' r' => k v F' H' (.list l) I' X' r' q⟩
def f2I (g : Int → Int → Int) : FC := fun ds k => match ds with
  | [.int i, .int j] => k (.int (g i j))
  | _ => False
theorem sc_2I {g : Int → Int → Int} : SndC K (fun xs H Q => ∃ i j, xs = [.int i, .int j] ∧ Q (.int (g i j)) H) (f2I g) := by
  intro vs F H σ E ds Qd Q I h q k
  match ds, q with
  | [.int i, .int j], q =>
    obtain ⟨v, v', rfl, h1, h2⟩ := h.two
    cases h1.dp I.sub
    cases h2.dp I.sub
    exact ⟨i, j, rfl, k _ F H _ I (Ext.refl _ _ _ _) (.int _) q⟩
def f1I (g : Int → Int) : FC := fun ds k => match ds with
  | [.int i] => k (.int (g i))
  | _ => False
theorem sc_1I {g : Int → Int} : SndC K (fun xs H Q => ∃ i, xs = [.int i] ∧ Q (.int (g i)) H) (f1I g) := by
  intro vs F H σ E ds Qd Q I h q k
  match ds, q with
  | [.int i], q =>
    obtain ⟨v, rfl, h1⟩ := h.one
    cases h1.dp I.sub
    exact ⟨i, rfl, k _ F H _ I (Ext.refl _ _ _ _) (.int _) q⟩
def fInt : FC := fun ds k => match ds with
  | [.int i] => k (.int i)
  | [.bool i] => k (.int (if i then 1 else 0))
  | _ => False
theorem sc_int : SndC K (fun xs H Q => (∃ i, xs = [.int i] ∧ Q (.int i) H) ∨ ∃ k, xs = [.bl k] ∧ Q (.int (if k then 1 else 0)) H) fInt := by
  intro vs F H σ E ds Qd Q I h q k
  match ds, q with
  | [.int i], q =>
    obtain ⟨v, rfl, h1⟩ := h.one
    cases h1.dp I.sub
    exact .inl ⟨i, rfl, k _ F H _ I (Ext.refl _ _ _ _) (.int _) q⟩
  | [.bool i], q =>
    obtain ⟨v, rfl, h1⟩ := h.one
    cases h1.dp I.sub
    exact .inr ⟨i, rfl, k _ F H (.int (if i then 1 else 0)) I (Ext.refl _ _ _ _) (.int _) q⟩
end
end AF

set_option Elab.async false
set_option linter.all false
set_option maxRecDepth 100000
set_option maxHeartbeats 2000000
namespace AF
open PySem PySem.Spec PyProof.Rows L2

/-! ### statements -/
structure EndsD where
  nx : Env' → Prop
  rt : D → Env' → Prop
  bk : Env' → Prop := fun _ => False
  ct : Env' → Prop := fun _ => False
abbrev WS := EndsD → Env' → Prop
/-- what a block may do -/
structure ExtS (F H F' H' : Hp) (σ : L2.St) (E : Env') (σ' : L2.St) (E' : Env') : Prop where
  fz : Same F F'
  new : ∀ b o, F' b = some o → F b = some o ∨ H b = none
  keep : ∀ b o, H b = some o → ¬ Mine σ E b → H' b = some o
  live : ∀ b o, H b = some o → ∃ o', H' b = some o'
  mine : ∀ b, Mine σ' E' b → Mine σ E b ∨ H b = none
theorem Ext.s {F H F' H' : Hp} {σ : L2.St} {E E' : Env'} (x : Ext F H F' H' σ E E') : ExtS F H F' H' σ E σ E' :=
  ⟨x.fz, x.new, x.keep, x.live, fun b m => .inl ((mine_kin x.kin.2).mpr m)⟩
theorem ExtS.refl (F H : Hp) (σ : L2.St) (E : Env') : ExtS F H F H σ E σ E := (Ext.refl F H σ E).s
theorem back_none {H H1 : Hp} (l : ∀ b o, H b = some o → ∃ o', H1 b = some o') {c : Addr} (z : H1 c = none) : H c = none := by
  cases q : H c with
  | none => rfl
  | some u =>
    obtain ⟨o', e⟩ := l c u q
    rw [z] at e
    cases e
theorem ExtS.trans {F H F1 H1 F2 H2 : Hp} {σ σ1 σ2 : L2.St} {E E1 E2 : Env'} (a : ExtS F H F1 H1 σ E σ1 E1) (b : ExtS F1 H1 F2 H2 σ1 E1 σ2 E2) : ExtS F H F2 H2 σ E σ2 E2 where
  fz := a.fz.trans b.fz
  new := fun c o h => by
    rcases b.new c o h with z | z
    · exact a.new c o z
    · exact .inr (back_none a.live z)
  keep := fun c o h n => b.keep c o (a.keep c o h n) fun m => by
    rcases a.mine c m with z | z
    · exact n z
    · rw [h] at z; cases z
  live := fun c o h => by
    obtain ⟨o', e⟩ := a.live c o h
    exact b.live c o' e
  mine := fun c m => by
    rcases b.mine c m with z | z
    · exact a.mine c z
    · exact .inr (back_none a.live z)
/-- a table, as a slot of our own -/
def TabSl (F H : Hp) (P : Addr) (q : Str) : Prop := ∃ ps : Array Value, F P = none ∧ H P = some (.tbl ps) ∧ PySem.TriplesOk ps.toList ∧ TabF F q ps
/-- what a return leaves -/
structure Ret (K : PySem.W.Frag) (F H : Hp) (σ : L2.St) (E : Env') (v : V) (H' : Hp) (d : D) (E' : Env') : Prop where
  ex : ∃ F', Same F' H' ∧ Same F F' ∧ (∀ b o, F' b = some o → F b = some o ∨ H b = none ∨ Mine σ E b) ∧ (∀ b o, H b = some o → ¬ Mine σ E b → H' b = some o) ∧ (∀ b o, H b = some o → ∃ o', H' b = some o') ∧ Dp K F' v d ∧
    (∀ (i : Nat) (a : Addr) (ds : List D), E'[i]? = some (.dc a ds) → F' a = none ∧ ∃ xs, H' a = some (.lst xs) ∧ DpAll K F' xs ds) ∧
    ∀ (i : Nat) (P : Addr) (q : Str), E'[i]? = some (.tb P q) → TabSl F' H' P q
theorem Ret.step {K : PySem.W.Frag} {F H F1 H1 : Hp} {σ σ1 : L2.St} {E E1 : Env'} {v : V} {H' : Hp} {d : D} {E' : Env'} (x : ExtS F H F1 H1 σ E σ1 E1) (r : Ret K F1 H1 σ1 E1 v H' d E') : Ret K F H σ E v H' d E' := by
  obtain ⟨F', h1, h2, h3, h4, h5, h6, h7⟩ := r.ex
  refine ⟨F', h1, x.fz.trans h2, fun b o e => ?_, fun b o e n => h4 b o (x.keep b o e n) fun m => ?_, fun b o e => ?_, h6, h7⟩
  · rcases h3 b o e with z | z | z
    · rcases x.new b o z with z | z
      · exact .inl z
      · exact .inr (.inl z)
    · exact .inr (.inl (back_none x.live z))
    · rcases x.mine b z with z | z
      · exact .inr (.inr z)
      · exact .inr (.inl z)
  · rcases x.mine b m with z | z
    · exact n z
    · rw [e] at z; cases z
  · obtain ⟨o', e'⟩ := x.live b o e
    exact h5 b o' e'
/-- the ends agree -/
structure Agree (K : PySem.W.Frag) (F H : Hp) (σ : L2.St) (E : Env') (Dd : EndsD) (Dv : Ends) : Prop where
  nx : ∀ F' H' σ' E', EnvD K F' H' σ' E' → ExtS F H F' H' σ E σ' E' → Dd.nx E' → Dv.nx σ' H'
  bk : ∀ F' H' σ' E', EnvD K F' H' σ' E' → ExtS F H F' H' σ E σ' E' → Dd.bk E' → Dv.bk σ' H'
  ct : ∀ F' H' σ' E', EnvD K F' H' σ' E' → ExtS F H F' H' σ E σ' E' → Dd.ct E' → Dv.ct σ' H'
  rt : ∀ v H' d E', Ret K F H σ E v H' d E' → Dd.rt d E' → Dv.rt v H'
theorem Agree.step {K : PySem.W.Frag} {F H F1 H1 : Hp} {σ σ1 : L2.St} {E E1 : Env'} {Dd : EndsD} {Dv : Ends} (x : ExtS F H F1 H1 σ E σ1 E1) (k : Agree K F H σ E Dd Dv) : Agree K F1 H1 σ1 E1 Dd Dv :=
  ⟨fun F' H' σ' E' I y => k.nx F' H' σ' E' I (x.trans y), fun F' H' σ' E' I y => k.bk F' H' σ' E' I (x.trans y), fun F' H' σ' E' I y => k.ct F' H' σ' E' I (x.trans y), fun v H' d E' r => k.rt v H' d E' (r.step x)⟩
def SndS (K : PySem.W.Frag) (t : TS) (w : WS) : Prop := ∀ (σ : L2.St) (F H : Hp) (E : Env') (Dd : EndsD) (Dv : Ends), EnvD K F H σ E → w Dd E → Agree K F H σ E Dd Dv → t Dv σ H
structure PUS (X : Cx) (s : Stmt) (w : WS) : Prop where
  ex : ∃ t, PS X s t ∧ SndS X.K t w
structure PUSs (X : Cx) (ss : List Stmt) (w : WS) : Prop where
  ex : ∃ t, PSs X ss t ∧ SndS X.K t w
section
variable {X : Cx} {st : Stmt} {rest : List Stmt} {w w' : WS} {e a b c : Expr} {pos : Pos} {K : PySem.W.Frag}
def wSeq (w u : WS) : WS := fun Dd E => w { Dd with nx := u Dd } E
theorem puss_cons {u : WS} (h1 : PUS X st w) (h2 : PUSs X rest u) : PUSs X (st :: rest) (wSeq w u) := by
  obtain ⟨t1, p1, s1⟩ := h1.ex
  obtain ⟨t2, p2, s2⟩ := h2.ex
  refine ⟨_, pss_cons p1 p2, fun σ F H E Dd Dv I q k => ?_⟩
  exact s1 σ F H E _ _ I q ⟨fun F' H' σ' E' I' x n => s2 σ' F' H' E' Dd Dv I' n (k.step x), k.bk, k.ct, k.rt⟩
theorem puss_one (h1 : PUS X st w) : PUSs X [st] w := by
  obtain ⟨t1, p1, s1⟩ := h1.ex
  exact ⟨_, pss_one p1, s1⟩
def wNx : WS := fun Dd E => Dd.nx E
theorem puss_nil : PUSs X [] wNx := ⟨_, pss_nil, fun σ F H E Dd Dv I q k => k.nx F H σ E I (ExtS.refl _ _ _ _) q⟩
def wNever : WS := fun _ _ => False
theorem pus_never : PUS X st wNever := ⟨_, ps_never, fun _ _ _ _ _ _ _ q _ => q.elim⟩
theorem puss_never {sts : List Stmt} : PUSs X sts wNever := ⟨_, pss_never, fun _ _ _ _ _ _ _ q _ => q.elim⟩
theorem pus_pass : PUS X (.Pass pos) wNx := ⟨_, ps_pass, fun σ F H E Dd Dv I q k => k.nx F H σ E I (ExtS.refl _ _ _ _) q⟩
theorem pus_break : PUS X (.Break pos) fun Dd E => Dd.bk E := ⟨_, ps_break, fun σ F H E Dd Dv I q k => k.bk F H σ E I (ExtS.refl _ _ _ _) q⟩
theorem pus_cont : PUS X (.Continue pos) fun Dd E => Dd.ct E := ⟨_, ps_continue, fun σ F H E Dd Dv I q k => k.ct F H σ E I (ExtS.refl _ _ _ _) q⟩
def wDrop (w : WE) : WS := fun Dd E => w E fun _ E1 => Dd.nx E1
theorem pus_expr {w : WE} (h : PU X e w) (hs : swapsWith e none pos.line X.env = pure false := by rfl) : PUS X (.Expr e pos) (wDrop w) := by
  obtain ⟨t, p, s⟩ := h.ex
  exact ⟨_, ps_expr p hs, fun σ F H E Dd Dv I q k => s σ F H E _ _ I q fun v F' H' E' x I' X' r q' => k.nx F' H' σ E' I' X'.s q'⟩
def wIfS (wc : WT) (wa wb : WS) : WS := fun Dd E => wc E fun z E1 => if z = true then wa Dd E1 else wb Dd E1
theorem pus_if {wc : WT} {wa wb : WS} {sa sb : List Stmt} (hc : PUT X c wc) (ha : PUSs X sa wa) (hb : PUSs X sb wb) : PUS X (.If c sa sb pos) (wIfS wc wa wb) := by
  obtain ⟨tc, pc, sc⟩ := hc.ex
  obtain ⟨ta, pa, sa'⟩ := ha.ex
  obtain ⟨tb, pb, sb'⟩ := hb.ex
  refine ⟨_, ps_if pc pa pb, fun σ F H E Dd Dv I q k => ?_⟩
  refine sc σ F H E _ _ I q fun z F1 H1 E1 I1 X1 q1 => ?_
  cases z with
  | true =>
    rw [if_pos rfl] at q1 ⊢
    exact sa' σ F1 H1 E1 Dd Dv I1 q1 (k.step X1.s)
  | false =>
    rw [if_neg Bool.false_ne_true] at q1 ⊢
    exact sb' σ F1 H1 E1 Dd Dv I1 q1 (k.step X1.s)
/-! ### return -/
theorem EnvD.dcs {F H : Hp} {σ : L2.St} {E : Env'} (I : EnvD K F H σ E) (i : Nat) (a : Addr) (ds : List D) (h : E[i]? = some (.dc a ds)) : F a = none ∧ ∃ xs, H a = some (.lst xs) ∧ DpAll K F xs ds := by
  obtain ⟨o, ho, xs, e, h1, h2, h3⟩ := I.slot h
  exact ⟨h1, xs, h2, h3⟩
theorem EnvD.tbs {F H : Hp} {σ : L2.St} {E : Env'} (I : EnvD K F H σ E) (i : Nat) (P : Addr) (q : Str) (h : E[i]? = some (.tb P q)) : TabSl F H P q := by
  obtain ⟨o, ho, ps, e, h1, h2, h3, h4⟩ := I.slot h
  exact ⟨ps, h1, h2, h3, h4⟩
theorem EnvD.mineSome {F H : Hp} {σ : L2.St} {E : Env'} (I : EnvD K F H σ E) {b : Addr} (m : Mine σ E b) : ∃ o, H b = some o := by
  obtain ⟨i, ⟨s, e, ho⟩, es⟩ := m
  obtain ⟨o, e2, hs⟩ := I.slot e
  rw [es] at e2
  cases e2
  cases s with
  | no => cases ho
  | fz d => cases ho
  | ol d => obtain ⟨a, xs, e3, _, h, _⟩ := hs; cases e3; exact ⟨_, h⟩
  | od d => obtain ⟨a, xs, e3, _, h, _⟩ := hs; cases e3; exact ⟨_, h⟩
  | ot d => obtain ⟨a, xs, e3, _, h, _⟩ := hs; cases e3; exact ⟨_, h⟩
  | dc a d => obtain ⟨xs, e3, _, h, _⟩ := hs; cases e3; exact ⟨_, h⟩
  | tb P q => obtain ⟨ps, e3, _, h, _⟩ := hs; cases e3; exact ⟨_, h⟩
  | fl d => obtain ⟨a, xs, e3, _, h, _⟩ := hs; cases e3; exact ⟨_, h⟩
  | fv d => cases ho
  | vv v d => cases ho
theorem Ret.of {F H F1 H1 : Hp} {σ : L2.St} {E E1 : Env'} {v : V} {d : D} (I : EnvD K F1 H1 σ E1) (x : Ext F H F1 H1 σ E E1) (r : Dp K F1 v d) : Ret K F H σ E v H1 d E1 :=
  ⟨F1, I.sub, x.fz, fun b o e => (x.new b o e).elim .inl fun z => .inr (.inl z), x.keep, x.live, r, I.dcs, I.tbs⟩
def wRet (w : WE) : WS := fun Dd E => w E fun x E1 => match x with
  | .d d => Dd.rt d E1
  | .own i => match E1[i]? with
    | some (.ol ds) => Dd.rt (.list ds) E1
    | _ => False
theorem pus_ret {w : WE} (h : PU X e w) : PUS X (.Return (some e) pos) (wRet w) := by
  obtain ⟨t, p, s⟩ := h.ex
  refine ⟨_, ps_ret p, fun σ F H E Dd Dv I q k => ?_⟩
  refine s σ F H E _ _ I q fun v F1 H1 E1 x I1 X1 r q1 => ?_
  cases x with
  | d d => exact k.rt v H1 d E1 (.of I1 X1 r) q1
  | own i =>
    have q1 : (match E1[i]? with
      | some (.ol ds) => Dd.rt (.list ds) E1
      | _ => False) := q1
    cases e1 : E1[i]? with
    | none => rw [e1] at q1; exact q1.elim
    | some sl =>
      rw [e1] at q1
      cases sl with
      | ol ds =>
        obtain ⟨o, ho, a, xs, e2, hF, hH, hd⟩ := I1.slot e1
        have r' : σ[i]? = some (some v) := r
        rw [ho] at r'
        cases (Option.some.inj r').symm.trans e2
        subst e2
        have own_i : OwnAt E1 i := ⟨_, e1, rfl⟩
        have mineE : Mine σ E a := ⟨i, (X1.kin.2 i).1.mpr own_i, ho⟩
        refine k.rt _ H1 (.list ds) E1 ⟨upd F1 a (.lst xs), fun b o e => ?_, X1.fz.trans (same_upd hF), fun b o e => ?_, X1.keep, X1.live, .lst upd_same (dpa_same (same_upd hF) hd), fun j c es h => ?_, fun j c es h => ?_⟩ q1
        · by_cases hb : b = a
          · subst hb; rw [upd_same] at e; cases e; exact hH
          · rw [upd_ne hb] at e; exact I1.sub _ _ e
        · by_cases hb : b = a
          · subst hb; exact .inr (.inr mineE)
          · rw [upd_ne hb] at e
            exact (X1.new b o e).elim .inl fun z => .inr (.inl z)
        · obtain ⟨oj, ej, xs', e3, g1, g2, g3⟩ := I1.slot h
          subst e3
          have hij : i ≠ j := fun e => by subst e; rw [e1] at h; cases h
          have hne : c ≠ a := fun e => by
            subst e
            exact I1.sep i j c hij own_i ⟨_, h, rfl⟩ ho ej
          exact ⟨by rw [upd_ne hne]; exact g1, xs', g2, dpa_same (same_upd hF) g3⟩
        · obtain ⟨oj, ej, ps, e3, g1, g2, g3, g4⟩ := I1.slot h
          subst e3
          have hij : i ≠ j := fun e => by subst e; rw [e1] at h; cases h
          have hne : c ≠ a := fun e => by
            subst e
            exact I1.sep i j c hij own_i ⟨_, h, rfl⟩ ho ej
          exact ⟨ps, by rw [upd_ne hne]; exact g1, g2, g3, tabF_same (same_upd hF) g4⟩
      | _ => exact q1.elim
theorem pus_retN : PUS X (.Return none pos) fun Dd E => Dd.rt .none E :=
  ⟨_, ps_retN, fun σ F H E Dd Dv I q k => k.rt .non H .none E (.of I (Ext.refl _ _ _ _) .non) q⟩

/-! ### storing to a slot -/
theorem own_set {E : Env'} {i j : Nat} {s : Sl} (h : OwnAt (E.set i s) j) : (j = i ∧ s.own = true) ∨ (j ≠ i ∧ OwnAt E j) := by
  obtain ⟨u, e, o⟩ := h
  by_cases hj : i = j
  · subst hj
    by_cases hl : i < E.length
    · rw [List.getElem?_set_self hl] at e
      cases e
      exact .inl ⟨rfl, o⟩
    · rw [List.getElem?_eq_none (by rw [List.length_set]; omega)] at e
      cases e
  · rw [List.getElem?_set_ne hj] at e
    exact .inr ⟨fun z => hj z.symm, u, e, o⟩
theorem mine_set {σ : L2.St} {E : Env'} {i : Nat} {v : V} {s : Sl} {b : Addr} (m : Mine (σ.set i (some v)) (E.set i s) b) : (s.own = true ∧ v = .ref b) ∨ Mine σ E b := by
  obtain ⟨j, ho, e⟩ := m
  rcases own_set ho with ⟨rfl, o⟩ | ⟨hj, o⟩
  · by_cases hl : j < σ.length
    · rw [List.getElem?_set_self hl] at e
      cases e
      exact .inl ⟨o, rfl⟩
    · rw [List.getElem?_eq_none (by rw [List.length_set]; omega)] at e
      cases e
  · rw [List.getElem?_set_ne (fun z => hj z.symm)] at e
    exact .inr ⟨j, o, e⟩
theorem EnvD.setv {F H : Hp} {σ : L2.St} {E : Env'} {v : V} {s : Sl} (I : EnvD K F H σ E) (i : Nat) (hs : SlAt K F H (some v) s) (hf : s.own = true → ∀ b, v = .ref b → ¬ Mine σ E b) : EnvD K F H (σ.set i (some v)) (E.set i s) := by
  refine ⟨I.sub, by rw [List.length_set, List.length_set]; exact I.len, fun j u o e1 e2 => ?_, fun j k a hjk h1 h2 e1 e2 => ?_⟩
  · by_cases hj : i = j
    · subst hj
      by_cases hl : i < E.length
      · rw [List.getElem?_set_self hl] at e1
        rw [List.getElem?_set_self (by rw [I.len]; exact hl)] at e2
        cases e1
        cases e2
        exact hs
      · rw [List.getElem?_eq_none (by rw [List.length_set]; omega)] at e1
        cases e1
    · rw [List.getElem?_set_ne hj] at e1 e2
      exact I.at_ j u o e1 e2
  · rcases own_set h1 with ⟨rfl, o1⟩ | ⟨hj, o1⟩
    · rcases own_set h2 with ⟨rfl, o2⟩ | ⟨hk, o2⟩
      · exact hjk rfl
      · have hl : j < σ.length := by
          rcases Nat.lt_or_ge j σ.length with z | z
          · exact z
          · rw [List.getElem?_eq_none (by rw [List.length_set]; exact z)] at e1; cases e1
        rw [List.getElem?_set_self hl] at e1
        rw [List.getElem?_set_ne (fun z => hk z.symm)] at e2
        cases e1
        exact hf o1 a rfl ⟨k, o2, e2⟩
    · rw [List.getElem?_set_ne (fun z => hj z.symm)] at e1
      rcases own_set h2 with ⟨rfl, o2⟩ | ⟨hk, o2⟩
      · have hl : k < σ.length := by
          rcases Nat.lt_or_ge k σ.length with z | z
          · exact z
          · rw [List.getElem?_eq_none (by rw [List.length_set]; exact z)] at e2; cases e2
        rw [List.getElem?_set_self hl] at e2
        cases e2
        exact hf o2 a rfl ⟨j, o1, e1⟩
      · rw [List.getElem?_set_ne (fun z => hk z.symm)] at e2
        exact I.sep j k a hjk o1 o2 e1 e2
/-- a value for a slot: frozen, or new -/
abbrev WV := Env' → (Sl → Env' → Prop) → Prop
structure VOk (K : PySem.W.Frag) (F' H' H : Hp) (v : V) (s : Sl) : Prop where
  at_ : SlAt K F' H' (some v) s
  new : s.own = true → ∃ p, v = .ref p ∧ H p = none ∧ H' p ≠ none
def SndV (K : PySem.W.Frag) (t : TE) (w : WV) : Prop := ∀ (σ : L2.St) (F H : Hp) (E : Env') (Qd : Sl → Env' → Prop) (Q : VK), EnvD K F H σ E → w E Qd →
  (∀ v F' H' E' s, EnvD K F' H' σ E' → Ext F H F' H' σ E E' → VOk K F' H' H v s → Qd s E' → Q v H') → t σ H Q
structure PUV (X : Cx) (e : Expr) (w : WV) : Prop where
  ex : ∃ t, PE X e t ∧ SndV X.K t w
def wFz (w : WE) : WV := fun E Q => w E fun x E1 => onD x fun d => Q (.fz d) E1
theorem puv_fz {w : WE} (h : PU X e w) : PUV X e (wFz w) := by
  obtain ⟨t, p, s⟩ := h.ex
  refine ⟨t, p, fun σ F H E Qd Q I q k => s σ F H E _ _ I q fun v F1 H1 E1 x I1 X1 r q1 => ?_⟩
  obtain ⟨d, rfl, q1⟩ := onD_of q1
  exact k v F1 H1 E1 (.fz d) I1 X1 ⟨⟨v, rfl, r⟩, fun z => by cases z⟩ q1
theorem notMine {F H F1 H1 : Hp} {σ : L2.St} {E E1 : Env'} {p : Addr} (I : EnvD K F H σ E) (x : Ext F H F1 H1 σ E E1) (h : H p = none) : ¬ Mine σ E1 p := fun m => by
  obtain ⟨o, e⟩ := I.mineSome ((mine_kin x.kin.2).mpr m)
  rw [h] at e
  cases e
/-- a list just made is an own one -/
def wOl (w : WA) : WV := fun E Q => w E fun xs E1 => onO (frz xs) fun ds => ds.length ≤ 1000 ∧ Q (.ol ds) E1
theorem Ext.push {F H : Hp} {σ : L2.St} {E : Env'} {p : Addr} {o : HO} (hp : H p = none) : Ext F H F (upd H p o) σ E E :=
  Ext.grow (Same.refl F) (same_upd hp) fun b u e => .inl e
theorem EnvD.push {F H : Hp} {σ : L2.St} {E : Env'} {p : Addr} {o : HO} (I : EnvD K F H σ E) (hp : H p = none) : EnvD K F (upd H p o) σ E :=
  I.grow (Same.refl F) (same_upd hp) (fun b u e => same_upd hp b u (I.sub b u e)) fun b u e => .inl e
theorem puv_lst {es : List Expr} {w : WA} (h : PUA X es w) : PUV X (.List es pos) (wOl w) := by
  obtain ⟨t, p, s⟩ := h.ex
  refine ⟨_, pe_lst p, fun σ F H E Qd Q I q k => ?_⟩
  refine s σ F H E _ _ I q fun vs F1 H1 E1 xs I1 X1 r1 q1 => ?_
  obtain ⟨ds, e1, hl, q2⟩ := onO_of q1
  have hd := frz_dpa r1 e1
  refine ⟨line1000 (by rw [dpa_len hd]; exact hl), fun p hp => ?_⟩
  refine k _ F1 _ E1 (.ol ds) (I1.push hp) (X1.trans (Ext.push hp)) ⟨⟨p, vs, rfl, I1.sub.free hp, upd_same, hd⟩, fun _ => ⟨p, rfl, back_none X1.live hp, by rw [upd_same]; exact fun z => by cases z⟩⟩ q2
theorem puv_dK : PUV X (.Dict [] [] pos) fun E Q => Q (.od []) E := ⟨_, pe_dnewK, fun σ F H E Qd Q I q k => fun p hp =>
  k _ F _ E (.od []) (I.push hp) (Ext.push hp) ⟨⟨p, [], rfl, I.sub.free hp, upd_same, .nil⟩, fun _ => ⟨p, rfl, hp, by rw [upd_same]; exact fun z => by cases z⟩⟩ q⟩
theorem puv_dT : PUV X (.Dict [] [] pos) fun E Q => Q (.ot []) E := ⟨_, pe_dnewT, fun σ F H E Qd Q I q k => fun p hp =>
  k _ F _ E (.ot []) (I.push hp) (Ext.push hp) ⟨⟨p, [], rfl, I.sub.free hp, upd_same, .nil⟩, fun _ => ⟨p, rfl, hp, by rw [upd_same]; exact fun z => by cases z⟩⟩ q⟩
def wSet (i : Nat) (w : WV) : WS := fun Dd E => w E fun s E1 => Dd.nx (E1.set i s)
theorem ExtS.set {F H F' H' : Hp} {σ : L2.St} {E E' : Env'} {v : V} {s : Sl} (x : Ext F H F' H' σ E E') (i : Nat) (hv : VOk K F' H' H v s) : ExtS F H F' H' σ E (σ.set i (some v)) (E'.set i s) :=
  ⟨x.fz, x.new, x.keep, x.live, fun b m => by
    rcases mine_set m with ⟨o, rfl⟩ | m
    · obtain ⟨p, e, h, _⟩ := hv.new o
      cases e
      exact .inr h
    · exact .inl ((mine_kin x.kin.2).mpr m)⟩
theorem VOk.fresh {F H F' H' : Hp} {σ : L2.St} {E E' : Env'} {v : V} {s : Sl} (I : EnvD K F H σ E) (x : Ext F H F' H' σ E E') (hv : VOk K F' H' H v s) : s.own = true → ∀ b, v = .ref b → ¬ Mine σ E' b := fun o b e => by
  obtain ⟨p, e', h, _⟩ := hv.new o
  subst e'
  cases e
  exact notMine I x h
theorem pus_set {w : WV} {x : Str} {pos' : Pos} (i : Nat) (h : PUV X e w) (hN : X.N.Nodup) (hi : X.N[i]? = some x := by rfl) (hx : Loc X.env.scope x := by first | exact Or.inl rfl | exact Or.inr rfl) (hs : swapsWith e (some (.Name x pos')) pos.line X.env = pure false := by rfl)
    (hf : X.fn x = true ∨ X.env.scope.names.lookup x = some .local := by first | exact .inl rfl | exact .inr rfl) : PUS X (.Assign [.Name x pos'] e pos) (wSet i w) := by
  obtain ⟨t, p, s⟩ := h.ex
  refine ⟨_, ps_set hN hi hx p hs hf, fun σ F H E Dd Dv I q k => ?_⟩
  refine s σ F H E _ _ I q fun v F1 H1 E1 sl I1 X1 hv q1 => ?_
  exact k.nx F1 H1 _ _ (I1.setv i hv.at_ (hv.fresh I X1)) (.set X1 i hv) q1
/-- a, b = x, y -/
def wPar (i j : Nat) (wa wb : WV) : WS := fun Dd E => wa E fun s E1 => wb E1 fun u E2 => Dd.nx ((E2.set i s).set j u)
theorem VOk.keep {F H F1 H1 F2 H2 : Hp} {σ : L2.St} {E E1 E2 : Env'} {v : V} {s : Sl} (I : EnvD K F H σ E) (x : Ext F H F1 H1 σ E E1) (hv : VOk K F1 H1 H v s) (y : Ext F1 H1 F2 H2 σ E1 E2) : VOk K F2 H2 H v s := by
  have kp : ∀ {p : Addr} {o : HO}, v = .ref p → s.own = true → F1 p = none → H1 p = some o → F2 p = none ∧ H2 p = some o := fun {p o} e so h1 h2 => by
    have nm : ¬ Mine σ E1 p := hv.fresh I x so p e
    refine ⟨?_, y.keep _ _ h2 nm⟩
    cases q : F2 p with
    | none => rfl
    | some u =>
      rcases y.new _ _ q with z | z
      · rw [h1] at z; cases z
      · rw [h2] at z; cases z
  refine ⟨?_, fun o => ?_⟩
  · have h := hv.at_
    cases s with
    | no => exact True.intro
    | fz d => obtain ⟨u, e, r⟩ := h; exact ⟨u, e, dp_same y.fz r⟩
    | ol ds => obtain ⟨a, xs, e, h1, h2, r⟩ := h; obtain ⟨k1, k2⟩ := kp (Option.some.inj e) rfl h1 h2; exact ⟨a, xs, e, k1, k2, dpa_same y.fz r⟩
    | od ds => obtain ⟨a, xs, e, h1, h2, r⟩ := h; obtain ⟨k1, k2⟩ := kp (Option.some.inj e) rfl h1 h2; exact ⟨a, xs, e, k1, k2, Paired.mapP r fun p r z => ⟨z.1, dp_same y.fz z.2⟩⟩
    | ot ds => obtain ⟨a, xs, e, h1, h2, r⟩ := h; obtain ⟨k1, k2⟩ := kp (Option.some.inj e) rfl h1 h2; exact ⟨a, xs, e, k1, k2, Paired.mapP r fun p r z => ⟨z.1, dp_same y.fz z.2⟩⟩
    | dc a ds => obtain ⟨xs, e, h1, h2, r⟩ := h; obtain ⟨k1, k2⟩ := kp (Option.some.inj e) rfl h1 h2; exact ⟨xs, e, k1, k2, dpa_same y.fz r⟩
    | tb P q => obtain ⟨ps, e, h1, h2, t, r⟩ := h; obtain ⟨k1, k2⟩ := kp (Option.some.inj e) rfl h1 h2; exact ⟨ps, e, k1, k2, t, tabF_same y.fz r⟩
    | fl fs => obtain ⟨a, xs, e, h1, h2, q⟩ := h; obtain ⟨k1, k2⟩ := kp (Option.some.inj e) rfl h1 h2; exact ⟨a, xs, e, k1, k2, fnVs_same y.fz q⟩
    | fv d => obtain ⟨v, e, q⟩ := h; exact ⟨v, e, fnV_same y.fz q⟩
    | vv v d => exact ⟨h.1, dp_same y.fz h.2⟩
  · obtain ⟨p, e, h1, h2⟩ := hv.new o
    refine ⟨p, e, h1, ?_⟩
    cases q : H1 p with
    | none => exact absurd q h2
    | some u =>
      obtain ⟨o', e'⟩ := y.live p u q
      rw [e']
      exact fun z => by cases z
/-- two values in a row -/
def SndV2 (K : PySem.W.Frag) (t : TA) (wa wb : WV) : Prop := ∀ (σ : L2.St) (F H : Hp) (E : Env') (Qd : Sl → Sl → Env' → Prop) (Q : List V → Hp → Prop), EnvD K F H σ E → (wa E fun s E1 => wb E1 fun u E2 => Qd s u E2) →
  (∀ v v' F' H' E' s s', EnvD K F' H' σ E' → Ext F H F' H' σ E E' → VOk K F' H' H v s → VOk K F' H' H v' s' → (s.own = true → s'.own = true → v ≠ v') → Qd s s' E' → Q [v, v'] H') → t σ H Q
theorem pa_two {wa wb : WV} (ha : PUV X a wa) (hb : PUV X b wb) (hst : starEach [a, b] X.env = (false, eval a X.env) :: starEach [b] X.env := by rfl) (hst2 : starEach [b] X.env = (false, eval b X.env) :: starEach [] X.env := by rfl) : ∃ t, PA X [a, b] t ∧ SndV2 X.K t wa wb := by
  obtain ⟨ta, pa, sa⟩ := ha.ex
  obtain ⟨tb, pb, sb⟩ := hb.ex
  refine ⟨_, pa_cons pa (pa_cons pb pa_nil hst2) hst, fun σ F H E Qd Q I q k => ?_⟩
  refine sa σ F H E _ _ I q fun v F1 H1 E1 s1 I1 X1 hv1 q1 => ?_
  refine sb σ F1 H1 E1 _ _ I1 q1 fun u F2 H2 E2 s2 I2 X2 hv2 q2 => ?_
  refine k v u F2 H2 E2 s1 s2 I2 (X1.trans X2) (hv1.keep I X1 X2) ⟨hv2.at_, fun o => ?_⟩ (fun o1 o2 e => ?_) q2
  · obtain ⟨p, e, h1, h2⟩ := hv2.new o
    exact ⟨p, e, back_none X1.live h1, h2⟩
  · obtain ⟨p, e1, _, h2⟩ := hv1.new o1
    obtain ⟨p', e2, h3, _⟩ := hv2.new o2
    subst e1
    cases e.trans e2
    exact h2 h3
theorem pus_par {wa wb : WV} {x y : Str} {px py pt : Pos} {kt k2 pt2} (i j : Nat) (ha : PUV X a wa) (hb : PUV X b wb) (hN : X.N.Nodup) (hc : X.calm = true := by rfl) (hi : X.N[i]? = some x := by rfl) (hj : X.N[j]? = some y := by rfl) (hij : i ≠ j := by decide)
    (hx : X.env.scope.names.lookup x = some .local := by rfl) (hy : X.env.scope.names.lookup y = some .local := by rfl) (hst : starEach [a, b] X.env = (false, eval a X.env) :: starEach [b] X.env := by rfl) (hst2 : starEach [b] X.env = (false, eval b X.env) :: starEach [] X.env := by rfl)
    (hw : swappedStores [.Tuple [.Name x px, .Name y py] kt pt] (.Tuple [a, b] k2 pt2) X.env = pure (some [x, y]))
    (hs : swapsWithSole [.Tuple [.Name x px, .Name y py] kt pt] (.Tuple [a, b] k2 pt2) pos.line X.env = pure false := by rfl) :
    PUS X (.Assign [.Tuple [.Name x px, .Name y py] kt pt] (.Tuple [a, b] k2 pt2) pos) (wPar i j wa wb) := by
  obtain ⟨t, p, s⟩ := pa_two ha hb hst hst2
  refine ⟨_, ps_par hc hN hi hj hij hx hy p hw hs, fun σ F H E Dd Dv I q k => ?_⟩
  refine s σ F H E (fun s u E2 => Dd.nx ((E2.set i s).set j u)) _ I q fun v u F1 H1 E1 s1 s2 I1 X1 hv1 hv2 hne q1 => ?_
  refine ⟨v, u, rfl, ?_⟩
  have I2 := I1.setv i hv1.at_ (hv1.fresh I X1)
  have I3 := I2.setv j hv2.at_ fun o b e m => by
    rcases mine_set m with ⟨o1, rfl⟩ | m
    · exact hne o1 o e.symm
    · exact hv2.fresh I X1 o b e m
  refine k.nx F1 H1 _ _ I3 ⟨X1.fz, X1.new, X1.keep, X1.live, fun b m => ?_⟩ q1
  rcases mine_set m with ⟨o, rfl⟩ | m
  · obtain ⟨p, e, h, _⟩ := hv2.new o
    cases e
    exact .inr h
  · rcases mine_set m with ⟨o, rfl⟩ | m
    · obtain ⟨p, e, h, _⟩ := hv1.new o
      cases e
      exact .inr h
    · exact .inl ((mine_kin X1.kin.2).mpr m)
end
end AF

set_option Elab.async false
set_option linter.all false
set_option maxRecDepth 100000
set_option maxHeartbeats 2000000
namespace AF
open PySem PySem.Spec PyProof.Rows L2

/-! ### one reading for one law -/
def can (K : PySem.W.Frag) (w : WE) : TE := fun σ H Q => ∃ F E Qd, EnvD K F H σ E ∧ w E Qd ∧ ∀ v F' H' E' x, EnvD K F' H' σ E' → Ext F H F' H' σ E E' → RV K F' σ v x → Qd x E' → Q v H'
def canT (K : PySem.W.Frag) (w : WT) : TT := fun σ H Q => ∃ F E Qd, EnvD K F H σ E ∧ w E Qd ∧ ∀ b F' H' E', EnvD K F' H' σ E' → Ext F H F' H' σ E E' → Qd b E' → Q b H'
theorem snd_can {K : PySem.W.Frag} {w : WE} : Snd K (can K w) w := fun σ F H E Qd Q I q k => ⟨F, E, Qd, I, q, k⟩
theorem snd_canT {K : PySem.W.Frag} {w : WT} : SndT K (canT K w) w := fun σ F H E Qd Q I q k => ⟨F, E, Qd, I, q, k⟩
theorem pu_can {X : Cx} {e : Expr} {w : WE} (h : PU X e w) : PE X e (can X.K w) := by
  obtain ⟨t, p, s⟩ := h.ex
  exact ⟨fun pins st σ H Q I ⟨F, E, Qd, J, q, k⟩ => p.run pins st σ H Q I (s σ F H E Qd Q J q k)⟩
structure PUTs (X : Cx) (ifs : List Expr) (w : WT) : Prop where
  ex : ∃ t, PTs X ifs t ∧ SndT X.K t w
def wYes : WT := fun E Q => Q true E
theorem puts_nil {X : Cx} : PUTs X [] wYes := ⟨_, pts_nil, fun σ F H E Qd Q I q k => k true F H E I (Ext.refl _ _ _ _) q⟩
theorem puts_one {X : Cx} {c : Expr} {w : WT} (h : PUT X c w) : PUTs X [c] w := by
  obtain ⟨t, p, s⟩ := h.ex
  exact ⟨_, pts_one p, s⟩
theorem puts_can {X : Cx} {ifs : List Expr} {w : WT} (h : PUTs X ifs w) : PTs X ifs (canT X.K w) := by
  obtain ⟨t, p, s⟩ := h.ex
  exact ⟨fun pins st σ H Q I ⟨F, E, Qd, J, q, k⟩ => p.run pins st σ H Q I (s σ F H E Qd Q J q k)⟩

/-! ### targets -/
abbrev WG := D → Env' → (Env' → Prop) → Prop
abbrev WGs := List D → Env' → (Env' → Prop) → Prop
def wipeE (E : Env') : List Nat → Env'
  | [] => E
  | v :: vs => (wipeE E vs).set v .no
def SndG (K : PySem.W.Frag) (vs : List Nat) (g : TG) (w : WG) : Prop := ∀ (v : V) (d : D) (σ : L2.St) (F H : Hp) (E : Env') (Qd : Env' → Prop) (Q : L2.St → Hp → Prop), EnvD K F H σ E → Dp K F v d → w d E Qd →
  (∀ σ' E', EnvD K F H σ' E' → (∀ b, Mine σ' E' b → Mine σ E b) → wipe σ' vs = wipe σ vs → wipeE E' vs = wipeE E vs → Qd E' → Q σ' H) → g v σ H Q
def SndGs (K : PySem.W.Frag) (vs : List Nat) (g : TGs) (w : WGs) : Prop := ∀ (v : List V) (d : List D) (σ : L2.St) (F H : Hp) (E : Env') (Qd : Env' → Prop) (Q : L2.St → Hp → Prop), EnvD K F H σ E → DpAll K F v d → w d E Qd →
  (∀ σ' E', EnvD K F H σ' E' → (∀ b, Mine σ' E' b → Mine σ E b) → wipe σ' vs = wipe σ vs → wipeE E' vs = wipeE E vs → Qd E' → Q σ' H) → g v σ H Q
structure PUG (X : Cx) (vs : List Nat) (tg : Expr) (w : WG) : Prop where
  ex : ∃ g, PG X tg g ∧ SndG X.K vs g w
structure PUGs (X : Cx) (vs : List Nat) (tg : List Expr) (w : WGs) : Prop where
  ex : ∃ g, PGs X tg g ∧ SndGs X.K vs g w
theorem wipe_get {σ : L2.St} {j : Nat} : ∀ {vs : List Nat}, (wipe σ vs)[j]? = if j ∈ vs then (if j < σ.length then some none else none) else σ[j]?
  | [] => by simp [wipe]
  | v :: vs => by
    unfold wipe
    rw [List.getElem?_set, wipe_length]
    by_cases h : v = j
    · subst h
      simp
    · have h' : ¬ j = v := fun e => h e.symm
      rw [if_neg h, wipe_get (vs := vs)]
      simp [h']
theorem wipeE_length (σ : Env') : ∀ vs : List Nat, (wipeE σ vs).length = σ.length
  | [] => rfl
  | v :: vs => by unfold wipeE; rw [List.length_set, wipeE_length σ vs]
theorem wipeE_get {σ : Env'} {j : Nat} : ∀ {vs : List Nat}, (wipeE σ vs)[j]? = if j ∈ vs then (if j < σ.length then some Sl.no else none) else σ[j]?
  | [] => by simp [wipeE]
  | v :: vs => by
    unfold wipeE
    rw [List.getElem?_set, wipeE_length]
    by_cases h : v = j
    · subst h
      simp
    · have h' : ¬ j = v := fun e => h e.symm
      rw [if_neg h, wipeE_get (vs := vs)]
      simp [h']
theorem wipe_set {σ : L2.St} {i : Nat} {x : Option V} {vs : List Nat} (h : i ∈ vs) : wipe (σ.set i x) vs = wipe σ vs := by
  apply List.ext_getElem?
  intro j
  rw [wipe_get, wipe_get, List.length_set]
  by_cases hj : j ∈ vs
  · simp [hj]
  · rw [if_neg hj, if_neg hj, List.getElem?_set_ne (fun e => hj (by rw [← e]; exact h))]
theorem wipeE_set {σ : Env'} {i : Nat} {x : Sl} {vs : List Nat} (h : i ∈ vs) : wipeE (σ.set i x) vs = wipeE σ vs := by
  apply List.ext_getElem?
  intro j
  rw [wipeE_get, wipeE_get, List.length_set]
  by_cases hj : j ∈ vs
  · simp [hj]
  · rw [if_neg hj, if_neg hj, List.getElem?_set_ne (fun e => hj (by rw [← e]; exact h))]
section
variable {X : Cx} {pos : Pos} {vs : List Nat}
def wgName (i : Nat) : WG := fun d E Q => Q (E.set i (.fz d))
theorem pug_name {x : Str} (i : Nat) (hN : X.N.Nodup) (hv : i ∈ vs := by decide) (hi : X.N[i]? = some x := by rfl) (hx : Loc X.env.scope x := by first | exact Or.inl rfl | exact Or.inr rfl) (hf : X.fn x = true ∨ X.env.scope.names.lookup x = some .local := by first | exact .inl rfl | exact .inr rfl) : PUG X vs (.Name x pos) (wgName i) :=
  ⟨_, pg_name hN hi hx hf, fun v d σ F H E Qd Q I r q k => k _ _ (I.setv (s := .fz d) i ⟨v, rfl, r⟩ (fun z => by cases z)) (fun b m => (mine_set m).elim (fun z => by cases z.1) id) (wipe_set hv) (wipeE_set hv) q⟩
def wgNil : WGs := fun ds E Q => ds = [] ∧ Q E
def wgCons (w : WG) (ws : WGs) : WGs := fun ds E Q => match ds with
  | d :: r => w d E fun E1 => ws r E1 Q
  | [] => False
theorem pugs_nil : PUGs X vs [] wgNil := ⟨_, pgs_nil, fun v d σ F H E Qd Q I r q k => by
  obtain ⟨rfl, q⟩ := q
  cases r
  exact ⟨rfl, k σ E I (fun b m => m) rfl rfl q⟩⟩
theorem pugs_cons {e : Expr} {es : List Expr} {w : WG} {ws : WGs} (h1 : PUG X vs e w) (h2 : PUGs X vs es ws) (hs : (assignEach (e :: es) X.env).map (·.2) = assign e X.env :: (assignEach es X.env).map (·.2) := by rfl) : PUGs X vs (e :: es) (wgCons w ws) := by
  obtain ⟨g, p, s⟩ := h1.ex
  obtain ⟨gs, ps, ss⟩ := h2.ex
  refine ⟨_, pgs_cons p ps hs, fun v d σ F H E Qd Q I r q k => ?_⟩
  cases r with
  | nil => exact q.elim
  | cons r1 r2 =>
    refine ⟨_, _, rfl, s _ _ σ F H E _ _ I r1 q fun σ1 E1 I1 m1 w1 w1' q1 => ?_⟩
    exact ss _ _ σ1 F H E1 _ _ I1 r2 q1 fun σ2 E2 I2 m2 w2 w2' q2 => k σ2 E2 I2 (fun b m => m1 b (m2 b m)) (w2.trans w1) (w2'.trans w1') q2
def wgTup (n : Nat) (ws : WGs) : WG := fun d E Q => match d with
  | .tuple ds => ds.length = n ∧ ws ds E Q
  | _ => False
theorem pug_tup {es : List Expr} {k : Nat} {ws : WGs} {n : Nat} (h : PUGs X vs es ws) (hc : X.calm = true := by rfl) (hn : (assignEach es X.env).length = n := by rfl) (hst : (assignEach es X.env).findIdx? (·.1) = none := by rfl) : PUG X vs (.Tuple es k pos) (wgTup n ws) := by
  obtain ⟨g, p, s⟩ := h.ex
  refine ⟨_, pg_tup hc p hn hst, fun v d σ F H E Qd Q I r q k => ?_⟩
  cases r <;> first | exact q.elim | skip
  rename_i a xs ds hs ha
  exact ⟨a, xs, rfl, sqT_of (I.sub _ _ hs), by rw [dpa_len ha]; exact q.1, s _ _ σ F H E _ _ I ha q.2 k⟩
/-- target = e -/
def wAsg (we : WE) (wg : WG) : WS := fun Dd E => we E fun x E1 => onD x fun d => wg d E1 Dd.nx
theorem pus_asg {tg e : Expr} {we : WE} {wg : WG} (he : PU X e we) (hg : PUG X vs tg wg) (hs : swapsWithSole [tg] e pos.line X.env = pure false := by rfl) (hw : swappedStores [tg] e X.env = pure none := by rfl)
    (h1 : (assignEach [tg] X.env).map (·.2) = [assign tg X.env] := by rfl) : PUS X (.Assign [tg] e pos) (wAsg we wg) := by
  obtain ⟨t, p, s⟩ := he.ex
  obtain ⟨g, pg, sg⟩ := hg.ex
  refine ⟨_, ps_asg p pg hs hw h1, fun σ F H E Dd Dv I q k => ?_⟩
  refine s σ F H E _ _ I q fun v F1 H1 E1 x I1 X1 r1 q1 => ?_
  obtain ⟨d, rfl, q2⟩ := onD_of q1
  refine sg v d σ F1 H1 E1 _ _ I1 r1 q2 fun σ2 E2 I2 m2 _ _ q3 => k.nx F1 H1 σ2 E2 I2 ⟨X1.fz, X1.new, X1.keep, X1.live, fun b m => .inl ((mine_kin X1.kin.2).mpr (m2 b m))⟩ q3
end

/-! ### what is walked -/
def JOk (K : PySem.W.Frag) (F : Hp) (J : It) (ds : List D) : Prop := ∀ (i : Nat) (F1 H : Hp), Same F F1 → Same F1 H →
  (∀ d, ds[i]? = some d → J.go i H ∧ ∀ x H', J.yld i H x H' → ∃ F', Same F1 F' ∧ Same H H' ∧ Same F' H' ∧ (∀ b u, F' b = some u → F1 b = some u ∨ H b = none) ∧ Dp K F' x d) ∧ (ds.length ≤ i → J.stop i H)
abbrev WI := Env' → (List D → Env' → Prop) → Prop
def SndI (K : PySem.W.Frag) (wi : TI) (w : WI) : Prop := ∀ (σ : L2.St) (F H : Hp) (E : Env') (Qd : List D → Env' → Prop) (R : It → Hp → Prop), EnvD K F H σ E → w E Qd →
  (∀ J F' H' E' ds, EnvD K F' H' σ E' → Ext F H F' H' σ E E' → JOk K F' J ds → Qd ds E' → R J H') → wi σ H R
structure PUI (X : Cx) (tg e : Expr) (w : WI) : Prop where
  ex : ∃ wi, PI X tg e wi ∧ SndI X.K wi w
section
variable {X : Cx} {tg e a b : Expr} {pos : Pos} {K : PySem.W.Frag}
theorem same_yld {F1 H : Hp} {x : V} {d : D} (s : Same F1 H) (h : Dp K F1 x d) : ∃ F', Same F1 F' ∧ Same H H ∧ Same F' H ∧ (∀ b u, F' b = some u → F1 b = some u ∨ H b = none) ∧ Dp K F' x d :=
  ⟨F1, Same.refl _, Same.refl _, s, fun _ _ h => .inl h, h⟩
theorem jok_tup {F : Hp} {p : Addr} {xs : List V} {ds : List D} (hs : SqT K F p xs) (ha : DpAll K F xs ds) : JOk K F (Itt K p) ds := fun i F1 H s1 s2 =>
  ⟨fun d e => by
    obtain ⟨v, e1, e2⟩ := dpa_get ha e
    refine ⟨⟨xs, v, sqT_same (s1.trans s2) hs, e1⟩, fun x H' y => ?_⟩
    obtain ⟨rfl, y⟩ := y
    have e3 := y xs (sqT_same (s1.trans s2) hs)
    rw [e1] at e3
    cases e3
    exact same_yld s2 (dp_same s1 e2), fun hl => ⟨xs, sqT_same (s1.trans s2) hs, by rw [dpa_len ha]; exact hl⟩⟩
theorem jok_list {F : Hp} {p : Addr} {xs : List V} {ds : List D} (hs : SqL K F p xs) (ha : DpAll K F xs ds) : JOk K F (L2.Itl K p) ds := fun i F1 H s1 s2 =>
  ⟨fun d e => by
    obtain ⟨v, e1, e2⟩ := dpa_get ha e
    refine ⟨⟨xs, v, (s1.trans s2).seq hs, e1⟩, fun x H' y => ?_⟩
    obtain ⟨rfl, y⟩ := y
    have e3 := y xs ((s1.trans s2).seq hs)
    rw [e1] at e3
    cases e3
    exact same_yld s2 (dp_same s1 e2), fun hl => ⟨xs, (s1.trans s2).seq hs, by rw [dpa_len ha]; exact hl⟩⟩
def wiTup (w : WE) : WI := fun E Q => w E fun x E1 => onD x fun d => match d with
  | .tuple ds => Q ds E1
  | _ => False
def wiList (w : WE) : WI := fun E Q => w E fun x E1 => onD x fun d => match d with
  | .list ds => Q ds E1
  | _ => False
theorem pui_tup {w : WE} (h : PU X e w) : PUI X tg e (wiTup w) := by
  obtain ⟨t, p, s⟩ := h.ex
  refine ⟨_, pi_tup p, fun σ F H E Qd R I q k => ?_⟩
  refine s σ F H E _ _ I q fun v F1 H1 E1 x I1 X1 r q1 => ?_
  obtain ⟨d, rfl, q2⟩ := onD_of q1
  have r : Dp X.K F1 v d := r
  cases r <;> first | exact False.elim q2 | skip
  rename_i p xs ds hs ha
  exact ⟨p, rfl, ⟨xs, sqT_of (I1.sub _ _ hs)⟩, k _ F1 H1 E1 ds I1 X1 (jok_tup (sqT_of hs) ha) q2⟩
theorem pui_list {w : WE} (h : PU X e w) : PUI X tg e (wiList w) := by
  obtain ⟨t, p, s⟩ := h.ex
  refine ⟨_, pi_list p, fun σ F H E Qd R I q k => ?_⟩
  refine s σ F H E _ _ I q fun v F1 H1 E1 x I1 X1 r q1 => ?_
  obtain ⟨d, rfl, q2⟩ := onD_of q1
  have r : Dp X.K F1 v d := r
  cases r <;> first | exact False.elim q2 | skip
  rename_i p xs ds hs ha
  exact ⟨p, rfl, ⟨xs, .of (I1.sub _ _ hs)⟩, k _ F1 H1 E1 ds I1 X1 (jok_list (.of hs) ha) q2⟩
def rngD (lo : Int) (n : Nat) : List D := (List.range n).map fun i => .int (lo + (i : Nat))
theorem rngD_get {lo : Int} {n i : Nat} {d : D} (e : (rngD lo n)[i]? = some d) : i < n ∧ d = .int (lo + (i : Nat)) := by
  unfold rngD at e
  rw [List.getElem?_map] at e
  by_cases hl : i < n
  · rw [List.getElem?_range hl] at e
    exact ⟨hl, (Option.some.inj e).symm⟩
  · rw [List.getElem?_eq_none (by rw [List.length_range]; omega)] at e
    cases e
theorem jok_rng {F : Hp} {lo : Int} {n : Nat} : JOk K F (Itr lo n) (rngD lo n) := by
  intro i F1 H s1 s2
  refine ⟨fun d e => ?_, fun hl => ?_⟩
  · obtain ⟨hl, rfl⟩ := rngD_get e
    refine ⟨hl, fun x H' y => ?_⟩
    obtain ⟨rfl, rfl⟩ := y
    exact same_yld s2 (.int _)
  · have : (rngD lo n).length = n := by unfold rngD; rw [List.length_map, List.length_range]
    show n ≤ i
    omega
def wiRng1 (w : WE) : WI := fun E Q => w E fun x E1 => onD x fun d => onI d fun j => (-(2 ^ 62) ≤ j ∧ j < 2 ^ 62) ∧ Q (rngD 0 j.toNat) E1
theorem pui_range1 {w : WE} {p : Pos} (ha : PU X a w) (hm : X.mg "range" = none) (hg : Gl X "range" := by rfl) (hs : starEach [a] X.env = [(false, eval a X.env)] := by rfl) (hst : starEach [a] X.env = (false, eval a X.env) :: starEach [] X.env := by rfl) : PUI X tg (.Call (.Name "range" p) [a] [] pos) (wiRng1 w) := by
  obtain ⟨t, p, s⟩ := ha.ex
  refine ⟨_, pi_range1 hg hm (pa_cons p pa_nil hst) hs, fun σ F H E Qd R I q k => ?_⟩
  refine s σ F H E _ _ I q fun v F1 H1 E1 x I1 X1 r q1 => ?_
  obtain ⟨d, rfl, q2⟩ := onD_of q1
  obtain ⟨j, rfl, ⟨h1, h2⟩, q3⟩ := onI_of q2
  cases dp_int r
  exact ⟨j, rfl, h1, h2, k _ F1 H1 E1 _ I1 X1 jok_rng q3⟩
def wiRng2 (wa wb : WE) : WI := fun E Q => wa E fun x E1 => onD x fun d => onI d fun i => wb E1 fun y E2 => onD y fun d => onI d fun j => (-(2 ^ 62) ≤ i ∧ i < 2 ^ 62 ∧ -(2 ^ 62) ≤ j ∧ j < 2 ^ 62) ∧ Q (rngD i (j - i).toNat) E2
theorem pui_range2 {wa wb : WE} {p : Pos} (ha : PU X a wa) (hb : PU X b wb) (hm : X.mg "range" = none) (hg : Gl X "range" := by rfl) (hs : starEach [a, b] X.env = [(false, eval a X.env), (false, eval b X.env)] := by rfl) (hs2 : starEach [b] X.env = [(false, eval b X.env)] := by rfl)
    (hst : starEach [a, b] X.env = (false, eval a X.env) :: starEach [b] X.env := by rfl) (hst2 : starEach [b] X.env = (false, eval b X.env) :: starEach [] X.env := by rfl) : PUI X tg (.Call (.Name "range" p) [a, b] [] pos) (wiRng2 wa wb) := by
  obtain ⟨t, p, s⟩ := ha.ex
  obtain ⟨t', p', s'⟩ := hb.ex
  refine ⟨_, pi_range2 hg hm (pa_cons p (pa_cons p' pa_nil hst2) hst) hs hs2, fun σ F H E Qd R I q k => ?_⟩
  refine s σ F H E _ _ I q fun v F1 H1 E1 x I1 X1 r q1 => ?_
  obtain ⟨d, rfl, q2⟩ := onD_of q1
  obtain ⟨i, rfl, q3⟩ := onI_of q2
  cases dp_int r
  refine s' σ F1 H1 E1 _ _ I1 q3 fun v F2 H2 E2 x I2 X2 r q1 => ?_
  obtain ⟨d, rfl, q2⟩ := onD_of q1
  obtain ⟨j, rfl, hb, q3⟩ := onI_of q2
  cases dp_int r
  exact ⟨i, j, rfl, hb, k _ F2 H2 E2 _ I2 (X1.trans X2) jok_rng q3⟩
def strD (x : Str) : List D := x.cps.toList.map fun c => .str ⟨#[c]⟩
def wiStr (w : WE) : WI := fun E Q => w E fun x E1 => onD x fun d => match d with
  | .str z => Q (strD z) E1
  | _ => False
theorem pui_str {w : WE} (h : PU X e w) : PUI X tg e (wiStr w) := by
  obtain ⟨t, p, s⟩ := h.ex
  refine ⟨_, pi_str p, fun σ F H E Qd R I q k => ?_⟩
  refine s σ F H E _ _ I q fun v F1 H1 E1 x I1 X1 r q1 => ?_
  obtain ⟨d, rfl, q2⟩ := onD_of q1
  have r : Dp X.K F1 v d := r
  cases r <;> first | exact False.elim q2 | skip
  rename_i z
  refine ⟨z, rfl, k _ F1 H1 E1 (strD z) I1 X1 (fun i F1 H s1 s2 => ⟨fun d e => ?_, fun hl => ?_⟩) q2⟩
  · unfold strD at e
    rw [List.getElem?_map, Array.getElem?_toList] at e
    cases h : z.cps[i]? with
    | none => rw [h] at e; cases e
    | some c =>
      rw [h] at e
      cases Option.some.inj e
      refine ⟨(Array.getElem?_eq_some_iff.mp h).1, fun x H' y => ?_⟩
      obtain ⟨rfl, c', e', rfl⟩ := y
      rw [h] at e'
      cases e'
      exact same_yld s2 (.str _)
  · unfold strD at hl
    rw [List.length_map, Array.length_toList] at hl
    exact hl
/-- a new pair each -/
theorem new_yld {F1 H : Hp} {T : Addr} {x y : V} {c d : D} (s : Same F1 H) (hT : H T = none) (h1 : Dp K F1 x c) (h2 : Dp K F1 y d) :
    ∃ F', Same F1 F' ∧ Same H (upd H T (.tup [x, y])) ∧ Same F' (upd H T (.tup [x, y])) ∧ (∀ b u, F' b = some u → F1 b = some u ∨ H b = none) ∧ Dp K F' (.ref T) (.tuple [c, d]) := by
  have n := same_upd (o := .tup [x, y]) (s.free hT)
  refine ⟨upd F1 T (.tup [x, y]), n, same_upd hT, fun b o e => ?_, fun b u e => ?_, .tup upd_same (.cons (dp_same n h1) (.cons (dp_same n h2) .nil))⟩
  · by_cases hb : b = T
    · subst hb; rw [upd_same] at e ⊢; exact e
    · rw [upd_ne hb] at e ⊢; exact s _ _ e
  · by_cases hb : b = T
    · subst hb; exact .inr hT
    · rw [upd_ne hb] at e; exact .inl e
def zipD (xs ys : List D) : List D := List.zipWith (fun x y => .tuple [x, y]) xs ys
theorem zipD_get {xs ys : List D} {i : Nat} {d : D} (h : (zipD xs ys)[i]? = some d) : ∃ x y, xs[i]? = some x ∧ ys[i]? = some y ∧ d = .tuple [x, y] := by
  unfold zipD at h
  rw [List.getElem?_zipWith] at h
  cases e1 : xs[i]? with
  | none => rw [e1] at h; cases h
  | some x =>
    rw [e1] at h
    cases e2 : ys[i]? with
    | none => rw [e2] at h; cases h
    | some y =>
      rw [e2] at h
      exact ⟨x, y, rfl, rfl, (Option.some.inj h).symm⟩
theorem jok_zipT {F : Hp} {p q : Addr} {xs ys : List V} {ds es : List D} (h1 : SqT K F p xs) (a1 : DpAll K F xs ds) (h2 : SqT K F q ys) (a2 : DpAll K F ys es) : JOk K F (RZ.ItzT K p q) (zipD ds es) := fun i F1 H s1 s2 =>
  ⟨fun d e => by
    obtain ⟨x, y, e1, e2, rfl⟩ := zipD_get e
    obtain ⟨v, g1, r1⟩ := dpa_get a1 e1
    obtain ⟨u, g2, r2⟩ := dpa_get a2 e2
    refine ⟨⟨xs, ys, v, u, sqT_same (s1.trans s2) h1, sqT_same (s1.trans s2) h2, g1, g2⟩, fun x H' yy => ?_⟩
    obtain ⟨T, x', y', rfl, hT, rfl, k1, k2⟩ := yy
    have k1 := k1 xs (sqT_same (s1.trans s2) h1)
    have k2 := k2 ys (sqT_same (s1.trans s2) h2)
    rw [g1] at k1
    rw [g2] at k2
    cases k1
    cases k2
    exact new_yld s2 hT (dp_same s1 r1) (dp_same s1 r2), fun hl => ⟨xs, ys, sqT_same (s1.trans s2) h1, sqT_same (s1.trans s2) h2, by
      unfold zipD at hl
      rw [List.length_zipWith, ← dpa_len a1, ← dpa_len a2] at hl
      omega⟩⟩
def wiZipT (w : WA) : WI := fun E Q => w E fun xs E1 => onO (frz xs) fun ds => match ds with
  | [.tuple xs, .tuple ys] => Q (zipD xs ys) E1
  | _ => False
theorem pui_zipT {w : WA} {p tpos : Pos} {elts : List Expr} {kk : Nat} (ha : PUA X [a, b] w) (hm : X.mg "zip" = none) (hg : Gl X "zip" := by rfl) (hs : starEach [a, b] X.env = (false, eval a X.env) :: starEach [b] X.env := by rfl) (hpl : (backTo pos (starEach [b] X.env)).any (·.1) = false := by rfl) :
    PUI X (.Tuple elts kk tpos) (.Call (.Name "zip" p) [a, b] [] pos) (wiZipT w) := by
  obtain ⟨t, p, s⟩ := ha.ex
  refine ⟨_, RZ.pi_zipA hg hm p hs hpl, fun σ F H E Qd R I q k => ?_⟩
  refine s σ F H E _ _ I q fun vs F1 H1 E1 xs I1 X1 r q1 => ?_
  obtain ⟨ds, e1, q2⟩ := onO_of q1
  have hd := frz_dpa r e1
  match ds, hd, q2 with
  | [.tuple us, .tuple ws], hd, q2 =>
    cases hd with
    | cons d1 hd =>
    cases hd with
    | cons d2 hd =>
    cases hd
    cases d1 with
    | tup s1 a1 =>
    cases d2 with
    | tup s2 a2 =>
    exact ⟨_, _, _, _, rfl, .inr ⟨sqT_of (I1.sub _ _ s1), sqT_of (I1.sub _ _ s2), k _ F1 H1 E1 _ I1 X1 (jok_zipT (sqT_of s1) a1 (sqT_of s2) a2) q2⟩⟩
end
end AF

set_option Elab.async false
set_option linter.all false
set_option maxRecDepth 100000
set_option maxHeartbeats 2000000
namespace AF
open PySem PySem.Spec PyProof.Rows L2

/-! ### for -/
def loopD (wg : WG) (wb : WS) (Dd : EndsD) : List D → Env' → Prop
  | [], E => Dd.nx E
  | d :: ds, E => wg d E fun E1 => wb ⟨loopD wg wb Dd ds, Dd.rt, Dd.nx, loopD wg wb Dd ds⟩ E1
def wFor (wi : WI) (wg : WG) (wb : WS) : WS := fun Dd E => wi E fun ds E1 => loopD wg wb Dd ds E1
section
variable {X : Cx} {tg iter e : Expr} {pos : Pos} {K : PySem.W.Frag} {vs : List Nat} {body : List Stmt}
theorem pus_for {wi : WI} {wg : WG} {wb : WS} (hp : PassesOwn (model X.prog X.w) X.A X.env X.xe) (hc : X.calm = true) (hi : PUI X tg iter wi) (hg : PUG X vs tg wg) (hb : PUSs X body wb)
    (hs : ∀ x, foldedSetIterable iter X.env x = pure x := by intro _; rfl) : PUS X (.For tg iter body [] pos) (wFor wi wg wb) := by
  obtain ⟨ti, pi, si⟩ := hi.ex
  obtain ⟨g, pg, sg⟩ := hg.ex
  obtain ⟨tb, pb, sb⟩ := hb.ex
  refine ⟨_, ps_for hp hc pi pg pb hs, fun σ F H E Dd Dv I q k => ?_⟩
  refine si σ F H E _ _ I q fun J F1 H1 E1 ds I1 X1 jk q1 => ?_
  refine ⟨fun i m σ' H' => m = ds.length - i ∧ i ≤ ds.length ∧ ∃ F' E', EnvD X.K F' H' σ' E' ∧ ExtS F1 H1 F' H' σ E1 σ' E' ∧ loopD wg wb Dd (ds.drop i) E',
    ⟨ds.length, by simp, Nat.zero_le _, F1, E1, I1, ExtS.refl _ _ _ _, q1⟩, ?_⟩
  rintro i m σ' H' ⟨rfl, hi, F', E', I', X', q'⟩
  have k' := (k.step X1.s).step X'
  by_cases hl : i < ds.length
  · rw [List.drop_eq_getElem_cons hl] at q'
    obtain ⟨go, yl⟩ := (jk i F' H' X'.fz I'.sub).1 _ (List.getElem?_eq_getElem hl)
    refine .inr ⟨go, fun σ2 H2 => ∃ m', m' < ds.length - i ∧ (m' = ds.length - (i + 1) ∧ i + 1 ≤ ds.length ∧ ∃ F2 E2, EnvD X.K F2 H2 σ2 E2 ∧ ExtS F1 H1 F2 H2 σ E1 σ2 E2 ∧ loopD wg wb Dd (ds.drop (i + 1)) E2), fun σ2 H2 h => h, fun x H2 y => ?_⟩
    obtain ⟨F2, f1, f2, f3, f4, r⟩ := yl x H2 y
    have I2 := I'.grow f1 f2 f3 f4
    have X2 : ExtS F' H' F2 H2 σ' E' σ' E' := (Ext.grow f1 f2 f4).s
    refine sg x _ σ' F2 H2 E' _ _ I2 r q' fun σ3 E3 I3 m3 _ _ q3 => ?_
    have X3 : ExtS F2 H2 F2 H2 σ' E' σ3 E3 := ⟨Same.refl _, fun _ _ h => .inl h, fun _ _ h _ => h, fun _ o h => ⟨o, h⟩, fun b mm => .inl (m3 b mm)⟩
    have X23 := X2.trans X3
    have again : ∀ F4 H4 σ4 E4, EnvD X.K F4 H4 σ4 E4 → ExtS F2 H2 F4 H4 σ3 E3 σ4 E4 → loopD wg wb Dd (ds.drop (i + 1)) E4 → ∃ m', m' < ds.length - i ∧ (m' = ds.length - (i + 1) ∧ i + 1 ≤ ds.length ∧ ∃ F2 E2, EnvD X.K F2 H4 σ4 E2 ∧ ExtS F1 H1 F2 H4 σ E1 σ4 E2 ∧ loopD wg wb Dd (ds.drop (i + 1)) E2) :=
      fun F4 H4 σ4 E4 I4 X4 q4 => ⟨_, by omega, rfl, hl, F4, E4, I4, X'.trans (X23.trans X4), q4⟩
    refine sb σ3 F2 H2 E3 _ _ I3 q3 ⟨fun F4 H4 σ4 E4 I4 X4 q4 => again F4 H4 σ4 E4 I4 X4 q4, fun F4 H4 σ4 E4 I4 X4 q4 => k'.nx F4 H4 σ4 E4 I4 (X23.trans X4) q4, fun F4 H4 σ4 E4 I4 X4 q4 => again F4 H4 σ4 E4 I4 X4 q4, fun v H4 d E4 r4 q4 => k'.rt v H4 d E4 (r4.step X23) q4⟩
  · have e : i = ds.length := by omega
    subst e
    rw [List.drop_length] at q'
    exact .inl ⟨(jk _ F' H' X'.fz I'.sub).2 (Nat.le_refl _), k'.nx F' H' σ' E' I' (ExtS.refl _ _ _ _) q'⟩

/-! ### while -/
/-- the word: n turns at most -/
def wWhile (c : WT) (wb : WS) : WS := fun Dd E => ∃ W : Nat → Env' → Prop, (∃ m, W m E) ∧ ∀ m E, W m E → c E fun b E1 => if b = true then wb ⟨fun E2 => ∃ m', m' < m ∧ W m' E2, Dd.rt, Dd.nx, fun E2 => ∃ m', m' < m ∧ W m' E2⟩ E1 else Dd.nx E1
theorem pus_while {c : Expr} {wc : WT} {wb : WS} (hp : PassesOwn (model X.prog X.w) X.A X.env X.xe) (hc : PUT X c wc) (hb : PUSs X body wb) : PUS X (.While c body [] pos) (wWhile wc wb) := by
  obtain ⟨tc, pc, sc⟩ := hc.ex
  obtain ⟨tb, pb, sb⟩ := hb.ex
  refine ⟨_, ps_while hp pc pb, fun σ F H E Dd Dv I q k => ?_⟩
  obtain ⟨W, ⟨m0, w0⟩, turn⟩ := q
  refine ⟨fun m σ' H' => ∃ F' E', EnvD X.K F' H' σ' E' ∧ ExtS F H F' H' σ E σ' E' ∧ W m E', ⟨m0, F, E, I, ExtS.refl _ _ _ _, w0⟩, ?_⟩
  rintro m σ' H' ⟨F', E', I', X', w'⟩
  refine sc σ' F' H' E' _ _ I' (turn m E' w') fun b F1 H1 E1 I1 X1 q1 => ?_
  have k1 := (k.step X').step X1.s
  cases b with
  | true =>
    rw [if_pos rfl] at q1 ⊢
    refine ⟨fun σ2 H2 => ∃ m', m' < m ∧ ∃ F' E', EnvD X.K F' H2 σ2 E' ∧ ExtS F H F' H2 σ E σ2 E' ∧ W m' E', fun σ2 H2 h => h, ?_⟩
    have again : ∀ F4 H4 σ4 E4, EnvD X.K F4 H4 σ4 E4 → ExtS F1 H1 F4 H4 σ' E1 σ4 E4 → (∃ m', m' < m ∧ W m' E4) → ∃ m', m' < m ∧ ∃ F' E', EnvD X.K F' H4 σ4 E' ∧ ExtS F H F' H4 σ E σ4 E' ∧ W m' E' :=
      fun F4 H4 σ4 E4 I4 X4 ⟨m', hm, w⟩ => ⟨m', hm, F4, E4, I4, X'.trans (X1.s.trans X4), w⟩
    exact sb σ' F1 H1 E1 _ _ I1 q1 ⟨again, k1.nx, again, k1.rt⟩
  | false =>
    rw [if_neg Bool.false_ne_true] at q1 ⊢
    exact k1.nx F1 H1 σ' E1 I1 (ExtS.refl _ _ _ _) q1

/-! ### list comprehensions -/
def compD (wg : WG) (wt : WT) (we : WE) (vs : List Nat) (Q : List D → Env' → Prop) : List D → List D → Env' → Prop
  | [], acc, E => Q acc E
  | d :: ds, acc, E => wg d E fun E1 => wt E1 fun b E2 => if b = true then we E2 fun x E3 => onD x fun y => compD wg wt we vs Q ds (acc ++ [y]) (wipeE E3 vs) else compD wg wt we vs Q ds acc (wipeE E2 vs)
/-- the block's own slots as they were -/
def backE (E E' : Env') : List Nat → Env'
  | [] => E'
  | v :: vs => (backE E E' vs).set v ((E[v]?).getD .no)
def freeB (E : Env') (vs : List Nat) : Bool := vs.all fun v => match E[v]? with
  | some s => !s.own
  | none => false
def wLc (wi : WI) (wg : WG) (wt : WT) (we : WE) (vs : List Nat) : WE := fun E Q => wi E fun ds E1 => ds.length ≤ 1000000 ∧ freeB E1 vs = true ∧ compD wg wt we vs (fun acc E2 => Q (.d (.list acc)) (backE E1 E2 vs)) ds [] (wipeE E1 vs)
theorem backE_length (E E' : Env') : ∀ vs, (backE E E' vs).length = E'.length
  | [] => rfl
  | v :: vs => by unfold backE; rw [List.length_set, backE_length E E' vs]
theorem backE_get {E E' : Env'} (hl : E'.length = E.length) {j : Nat} : ∀ {vs : List Nat}, (backE E E' vs)[j]? = if j ∈ vs then E[j]? else E'[j]?
  | [] => by simp [backE]
  | v :: vs => by
    unfold backE
    rw [List.getElem?_set, backE_length]
    by_cases h : v = j
    · subst h
      rw [if_pos rfl]
      simp only [List.mem_cons, true_or, if_true]
      by_cases hv : v < E'.length
      · rw [if_pos hv]
        rw [hl] at hv
        rw [List.getElem?_eq_getElem hv]
        rfl
      · rw [if_neg hv]
        rw [hl] at hv
        rw [List.getElem?_eq_none (by omega)]
    · have h' : ¬ j = v := fun e => h e.symm
      rw [if_neg h, backE_get hl (vs := vs)]
      simp [h']
theorem freeB_of {E : Env'} {vs : List Nat} (h : freeB E vs = true) {v : Nat} (hv : v ∈ vs) : ¬ OwnAt E v := fun ⟨s, e, o⟩ => by
  have := List.all_eq_true.mp h v hv
  rw [e] at this
  rw [show (match some s with | some s => !s.own | none => false) = !s.own from rfl, o] at this
  cases this
theorem EnvD.wiped {F H : Hp} {σ : L2.St} {E : Env'} (I : EnvD K F H σ E) (h : wipeE E vs = E) : EnvD K F H (wipe σ vs) E := by
  have hno : ∀ i s, i ∈ vs → E[i]? = some s → s = .no := fun i s hv e => by
    rw [← h, wipeE_get, if_pos hv] at e
    split at e
    · exact (Option.some.inj e).symm
    · cases e
  refine ⟨I.sub, by rw [wipe_length]; exact I.len, fun i s o e1 e2 => ?_, fun i j a hij o1 o2 e1 e2 => ?_⟩
  · by_cases hv : i ∈ vs
    · rw [hno i s hv e1]
      exact True.intro
    · rw [wipe_get, if_neg hv] at e2
      exact I.at_ i s o e1 e2
  · have key : ∀ i, OwnAt E i → i ∉ vs := fun i ⟨s, e, o⟩ hv => by
      rw [hno i s hv e] at o
      cases o
    rw [wipe_get, if_neg (key i o1)] at e1
    rw [wipe_get, if_neg (key j o2)] at e2
    exact I.sep i j a hij o1 o2 e1 e2
theorem EnvD.wipe2 {F H : Hp} {σ : L2.St} {E : Env'} (I : EnvD K F H σ E) (vs : List Nat) : EnvD K F H (wipe σ vs) (wipeE E vs) := by
  have key : ∀ i, OwnAt (wipeE E vs) i → i ∉ vs ∧ OwnAt E i := fun i ⟨s, e, o⟩ => by
    rw [wipeE_get] at e
    by_cases hv : i ∈ vs
    · rw [if_pos hv] at e
      split at e
      · cases Option.some.inj e; cases o
      · cases e
    · rw [if_neg hv] at e
      exact ⟨hv, s, e, o⟩
  refine ⟨I.sub, by rw [wipe_length, wipeE_length]; exact I.len, fun i s o e1 e2 => ?_, fun i j a hij o1 o2 e1 e2 => ?_⟩
  · rw [wipeE_get] at e1
    by_cases hv : i ∈ vs
    · rw [if_pos hv] at e1
      split at e1
      · cases Option.some.inj e1; exact True.intro
      · cases e1
    · rw [if_neg hv] at e1
      rw [wipe_get, if_neg hv] at e2
      exact I.at_ i s o e1 e2
  · obtain ⟨v1, o1⟩ := key i o1
    obtain ⟨v2, o2⟩ := key j o2
    rw [wipe_get, if_neg v1] at e1
    rw [wipe_get, if_neg v2] at e2
    exact I.sep i j a hij o1 o2 e1 e2
/-- the slots of the block as they were -/
theorem EnvD.back {F1 H1 F H : Hp} {σ : L2.St} {E1 E : Env'} (I1 : EnvD K F1 H1 σ E1) (hb : freeB E1 vs = true) (f : Same F1 F) (hl : E.length = E1.length) (I : EnvD K F H (wipe σ vs) E) : EnvD K F H σ (backE E1 E vs) := by
  have key : ∀ i, OwnAt (backE E1 E vs) i → i ∉ vs ∧ OwnAt E i := fun i ⟨s, e, o⟩ => by
    rw [backE_get hl] at e
    by_cases hv : i ∈ vs
    · rw [if_pos hv] at e
      exact absurd ⟨s, e, o⟩ (freeB_of hb hv)
    · rw [if_neg hv] at e
      exact ⟨hv, s, e, o⟩
  refine ⟨I.sub, by rw [backE_length, hl]; exact I1.len, fun i s o e1 e2 => ?_, fun i j a hij o1 o2 e1 e2 => ?_⟩
  · rw [backE_get hl] at e1
    by_cases hv : i ∈ vs
    · rw [if_pos hv] at e1
      have h := I1.at_ i s o e1 e2
      have no : s.own = false := by
        cases z : s.own with
        | false => rfl
        | true => exact absurd ⟨s, e1, z⟩ (freeB_of hb hv)
      cases s with
      | no => exact True.intro
      | fz d => obtain ⟨v, e, r⟩ := h; exact ⟨v, e, dp_same f r⟩
      | fv d => obtain ⟨v, e, r⟩ := h; exact ⟨v, e, fnV_same f r⟩
      | vv v d => exact ⟨h.1, dp_same f h.2⟩
      | _ => cases no
    · rw [if_neg hv] at e1
      exact I.at_ i s o e1 (by rw [wipe_get, if_neg hv]; exact e2)
  · obtain ⟨v1, o1⟩ := key i o1
    obtain ⟨v2, o2⟩ := key j o2
    exact I.sep i j a hij o1 o2 (by rw [wipe_get, if_neg v1]; exact e1) (by rw [wipe_get, if_neg v2]; exact e2)
theorem mine_wiped {σ : L2.St} {E : Env'} {b : Addr} (hb : freeB E vs = true) (m : Mine σ E b) : Mine (wipe σ vs) (wipeE E vs) b := by
  obtain ⟨i, o, e⟩ := m
  have hv : i ∉ vs := fun hv => freeB_of hb hv o
  obtain ⟨s, e1, o1⟩ := o
  exact ⟨i, ⟨s, by rw [wipeE_get, if_neg hv]; exact e1, o1⟩, by rw [wipe_get, if_neg hv]; exact e⟩
theorem wiped_mine {σ : L2.St} {E : Env'} {b : Addr} (m : Mine (wipe σ vs) (wipeE E vs) b) : Mine σ E b := by
  obtain ⟨i, ⟨s, e1, o1⟩, e⟩ := m
  by_cases hv : i ∈ vs
  · rw [wipeE_get, if_pos hv] at e1
    split at e1
    · cases Option.some.inj e1; cases o1
    · cases e1
  · rw [wipeE_get, if_neg hv] at e1
    rw [wipe_get, if_neg hv] at e
    exact ⟨i, ⟨s, e1, o1⟩, e⟩
/-- what the block did, seen from outside -/
theorem Ext.back {F1 H1 F H : Hp} {σ : L2.St} {E1 E : Env'} (hb : freeB E1 vs = true) (x : Ext F1 H1 F H (wipe σ vs) (wipeE E1 vs) E) : Ext F1 H1 F H σ E1 (backE E1 E vs) := by
  have hl : E.length = E1.length := by rw [x.kin.1, wipeE_length]
  refine ⟨x.fz, x.new, fun b o e n => x.keep b o e fun m => n (wiped_mine m), x.live, by rw [backE_length]; exact hl, fun i => ?_⟩
  have k := x.kin.2 i
  by_cases hv : i ∈ vs
  · have e : (backE E1 E vs)[i]? = E1[i]? := by rw [backE_get hl, if_pos hv]
    refine ⟨?_, fun _ => e⟩
    unfold OwnAt
    rw [e]
  · have e1 : (backE E1 E vs)[i]? = E[i]? := by rw [backE_get hl, if_neg hv]
    have e2 : (wipeE E1 vs)[i]? = E1[i]? := by rw [wipeE_get, if_neg hv]
    unfold OwnAt at k ⊢
    rw [e1]
    rw [e2] at k
    exact k
theorem wipe_wipe (σ : L2.St) (vs : List Nat) : wipe (wipe σ vs) vs = wipe σ vs := by
  apply List.ext_getElem?
  intro j
  rw [wipe_get, wipe_get, wipe_length]
  by_cases hj : j ∈ vs
  · simp [hj]
  · simp [hj]
theorem wipeE_wipeE (σ : Env') (vs : List Nat) : wipeE (wipeE σ vs) vs = wipeE σ vs := by
  apply List.ext_getElem?
  intro j
  rw [wipeE_get, wipeE_get, wipeE_length]
  by_cases hj : j ∈ vs
  · simp [hj]
  · simp [hj]
theorem EnvD.unwiped {F H : Hp} {σ σ2 : L2.St} {E : Env'} (I : EnvD K F H σ2 E) (h : wipe σ2 vs = wipe σ vs) : EnvD K F H σ (wipeE E vs) := by
  have hl : σ2.length = σ.length := by rw [← wipe_length σ2 vs, h, wipe_length]
  have hg : ∀ i, i ∉ vs → σ2[i]? = σ[i]? := fun i hv => by
    have e := congrArg (fun l => l[i]?) h
    simp only [wipe_get, if_neg hv] at e
    exact e
  have key : ∀ i, OwnAt (wipeE E vs) i → i ∉ vs ∧ OwnAt E i := fun i ⟨s, e, o⟩ => by
    rw [wipeE_get] at e
    by_cases hv : i ∈ vs
    · rw [if_pos hv] at e
      split at e
      · cases Option.some.inj e; cases o
      · cases e
    · rw [if_neg hv] at e
      exact ⟨hv, s, e, o⟩
  refine ⟨I.sub, by rw [wipeE_length, ← hl]; exact I.len, fun i s o e1 e2 => ?_, fun i j a hij o1 o2 e1 e2 => ?_⟩
  · rw [wipeE_get] at e1
    by_cases hv : i ∈ vs
    · rw [if_pos hv] at e1
      split at e1
      · cases Option.some.inj e1; exact True.intro
      · cases e1
    · rw [if_neg hv] at e1
      rw [← hg i hv] at e2
      exact I.at_ i s o e1 e2
  · obtain ⟨v1, o1⟩ := key i o1
    obtain ⟨v2, o2⟩ := key j o2
    rw [← hg i v1] at e1
    rw [← hg j v2] at e2
    exact I.sep i j a hij o1 o2 e1 e2
/-- the kin of two envs, with the same slots wiped -/
theorem kin_wipe {E E' : Env'} (k : E'.length = E.length ∧ ∀ i, (OwnAt E i ↔ OwnAt E' i) ∧ (¬ OwnAt E i → E'[i]? = E[i]?)) (vs : List Nat) :
    (wipeE E' vs).length = (wipeE E vs).length ∧ ∀ i, (OwnAt (wipeE E vs) i ↔ OwnAt (wipeE E' vs) i) ∧ (¬ OwnAt (wipeE E vs) i → (wipeE E' vs)[i]? = (wipeE E vs)[i]?) := by
  refine ⟨by rw [wipeE_length, wipeE_length]; exact k.1, fun i => ?_⟩
  by_cases hv : i ∈ vs
  · have e : (wipeE E' vs)[i]? = (wipeE E vs)[i]? := by rw [wipeE_get, wipeE_get, if_pos hv, if_pos hv, k.1]
    refine ⟨?_, fun _ => e⟩
    unfold OwnAt
    rw [e]
  · have e1 : (wipeE E' vs)[i]? = E'[i]? := by rw [wipeE_get, if_neg hv]
    have e2 : (wipeE E vs)[i]? = E[i]? := by rw [wipeE_get, if_neg hv]
    unfold OwnAt
    rw [e1, e2]
    exact k.2 i
/-- an own object of nobody may change -/
theorem EnvD.poke {F H : Hp} {σ : L2.St} {E : Env'} {p : Addr} {o : HO} (I : EnvD K F H σ E) (hF : F p = none) (hm : ¬ Mine σ E p) : EnvD K F (upd H p o) σ E := by
  refine ⟨fun b u e => by rw [upd_ne (ne_of_none e hF)]; exact I.sub b u e, I.len, fun i s v e1 e2 => ?_, I.sep⟩
  have h := I.at_ i s v e1 e2
  have ne : ∀ {a : Addr}, s.own = true → v = some (.ref a) → a ≠ p := fun {a} o e z => by
    subst e; subst z
    exact hm ⟨i, ⟨s, e1, o⟩, e2⟩
  cases s with
  | no => exact True.intro
  | fz d => exact h
  | ol d => obtain ⟨a, xs, e, h1, h2, r⟩ := h; exact ⟨a, xs, e, h1, by rw [upd_ne (ne rfl e)]; exact h2, r⟩
  | od d => obtain ⟨a, xs, e, h1, h2, r⟩ := h; exact ⟨a, xs, e, h1, by rw [upd_ne (ne rfl e)]; exact h2, r⟩
  | ot d => obtain ⟨a, xs, e, h1, h2, r⟩ := h; exact ⟨a, xs, e, h1, by rw [upd_ne (ne rfl e)]; exact h2, r⟩
  | dc a d => obtain ⟨xs, e, h1, h2, r⟩ := h; exact ⟨xs, e, h1, by rw [upd_ne (ne rfl e)]; exact h2, r⟩
  | tb P q => obtain ⟨ps, e, h1, h2, t, r⟩ := h; exact ⟨ps, e, h1, by rw [upd_ne (ne rfl e)]; exact h2, t, r⟩
  | fl fs => obtain ⟨a, xs, e, h1, h2, q⟩ := h; exact ⟨a, xs, e, h1, by rw [upd_ne (ne rfl e)]; exact h2, q⟩
  | fv d => exact h
  | vv v d => exact h
/-- an object of nobody is frozen -/
theorem EnvD.freeze {F H : Hp} {σ : L2.St} {E : Env'} {p : Addr} {o : HO} (I : EnvD K F H σ E) (hF : F p = none) (hp : H p = some o) (hm : ¬ Mine σ E p) : EnvD K (upd F p o) H σ E := by
  refine ⟨fun b u e => ?_, I.len, fun i s v e1 e2 => ?_, I.sep⟩
  · by_cases hb : b = p
    · subst hb; rw [upd_same] at e; cases e; exact hp
    · rw [upd_ne hb] at e; exact I.sub b u e
  · have h := I.at_ i s v e1 e2
    have sm : Same F (upd F p o) := same_upd hF
    have ne : ∀ {a : Addr}, s.own = true → v = some (.ref a) → a ≠ p := fun {a} o e z => by
      subst e; subst z
      exact hm ⟨i, ⟨s, e1, o⟩, e2⟩
    cases s with
    | no => exact True.intro
    | fz d => obtain ⟨u, e, r⟩ := h; exact ⟨u, e, dp_same sm r⟩
    | ol d => obtain ⟨a, xs, e, h1, h2, r⟩ := h; exact ⟨a, xs, e, by rw [upd_ne (ne rfl e)]; exact h1, h2, dpa_same sm r⟩
    | od d => obtain ⟨a, xs, e, h1, h2, r⟩ := h; exact ⟨a, xs, e, by rw [upd_ne (ne rfl e)]; exact h1, h2, Paired.mapP r fun p r z => ⟨z.1, dp_same sm z.2⟩⟩
    | ot d => obtain ⟨a, xs, e, h1, h2, r⟩ := h; exact ⟨a, xs, e, by rw [upd_ne (ne rfl e)]; exact h1, h2, Paired.mapP r fun p r z => ⟨z.1, dp_same sm z.2⟩⟩
    | dc a d => obtain ⟨xs, e, h1, h2, r⟩ := h; exact ⟨xs, e, by rw [upd_ne (ne rfl e)]; exact h1, h2, dpa_same sm r⟩
    | tb P q => obtain ⟨ps, e, h1, h2, t, r⟩ := h; exact ⟨ps, e, by rw [upd_ne (ne rfl e)]; exact h1, h2, t, tabF_same sm r⟩
    | fl fs => obtain ⟨a, xs, e, h1, h2, q⟩ := h; exact ⟨a, xs, e, by rw [upd_ne (ne rfl e)]; exact h1, h2, fnVs_same sm q⟩
    | fv d => obtain ⟨v, e, q⟩ := h; exact ⟨v, e, fnV_same sm q⟩
    | vv v d => exact ⟨h.1, dp_same sm h.2⟩
theorem snd_lc {ti : TI} {g : TG} {tt : TT} {te : TE} {wi : WI} {wg : WG} {wt : WT} {we : WE} (si : SndI K ti wi) (sg : SndG K vs g wg) (st : SndT K tt wt) (se : Snd K te we) : Snd K (tLc ti g tt te vs) (wLc wi wg wt we vs) := by
  intro σ F H E Qd Q I q k
  refine si σ F H E _ _ I q fun J F1 H1 E1 ds I1 X1 jk q1 => ?_
  obtain ⟨hsz, hfree, q1⟩ := q1
  intro L hL
  have Iw := I1.wipe2 vs
  have hw := wipeE_wipeE E1 vs
  generalize hE0 : wipeE E1 vs = E0 at Iw hw q1
  have notL : ¬ Mine (wipe σ vs) E0 L := fun m => by
    obtain ⟨o, e⟩ := Iw.mineSome m
    rw [hL] at e; cases e
  refine ⟨fun i m H' => m = ds.length - i ∧ i ≤ ds.length ∧ ∃ F' E' av ad, EnvD K F' H' (wipe σ vs) E' ∧ Ext F1 H1 F' H' (wipe σ vs) E0 E' ∧ F' L = none ∧ H' L = some (.lst av) ∧ DpAll K F' av ad ∧ ad.length ≤ i ∧ wipeE E' vs = E' ∧
    compD wg wt we vs (fun acc E2 => Qd (.d (.list acc)) (backE E1 E2 vs)) (ds.drop i) ad E', ⟨ds.length, by simp, Nat.zero_le _, F1, E0, [], [], Iw.push hL, Ext.push hL, I1.sub.free hL, upd_same, .nil, Nat.zero_le _, hw, q1⟩, ?_⟩
  rintro i m H' ⟨rfl, hi, F', E', av, ad, I', X', fL, hLs, ha, hlen, hw', q'⟩
  have notL' : ¬ Mine (wipe σ vs) E' L := fun m => notL ((mine_kin X'.kin.2).mpr m)
  by_cases hl : i < ds.length
  · rw [List.drop_eq_getElem_cons hl] at q'
    obtain ⟨go, yl⟩ := (jk i F' H' X'.fz I'.sub).1 _ (List.getElem?_eq_getElem hl)
    refine .inr ⟨go, fun H2 => ∃ m', m' < ds.length - i ∧ (m' = ds.length - (i + 1) ∧ i + 1 ≤ ds.length ∧ ∃ F2 E2 av ad, EnvD K F2 H2 (wipe σ vs) E2 ∧ Ext F1 H1 F2 H2 (wipe σ vs) E0 E2 ∧ F2 L = none ∧ H2 L = some (.lst av) ∧ DpAll K F2 av ad ∧ ad.length ≤ i + 1 ∧ wipeE E2 vs = E2 ∧
      compD wg wt we vs (fun acc E2 => Qd (.d (.list acc)) (backE E1 E2 vs)) (ds.drop (i + 1)) ad E2), fun H2 h => h, fun x H2 y => ?_⟩
    obtain ⟨F2, f1, f2, f3, f4, r⟩ := yl x H2 y
    have I2 : EnvD K F2 H2 (wipe σ vs) E' := I'.grow f1 f2 f3 f4
    have F2L : F2 L = none := by
      cases z : F2 L with
      | none => rfl
      | some u =>
        rcases f4 L u z with e | e
        · rw [fL] at e; cases e
        · rw [hLs] at e; cases e
    have H2L : H2 L = some (.lst av) := f2 _ _ hLs
    refine sg x _ (wipe σ vs) F2 H2 E' _ _ I2 r q' fun σ3 E3 I3 m3 w3 w3' q3 => ?_
    have w3 : wipe σ3 vs = wipe σ vs := by
      rw [w3]
      apply List.ext_getElem?
      intro j
      rw [wipe_get, wipe_get, wipe_length]
      by_cases hj : j ∈ vs
      · simp [hj]
      · simp [hj, wipe_get]
    refine ⟨w3, ?_⟩
    -- nobody's in the block
    have mineB : ∀ b, Mine σ3 E3 b → Mine (wipe σ vs) E' b := m3
    have notL3 : ¬ Mine σ3 E3 L := fun mm => notL' (mineB L mm)
    -- back to the def's own slots
    have back : ∀ {F4 H4 E4}, EnvD K F4 H4 σ3 E4 → Ext F2 H2 F4 H4 σ3 E3 E4 → EnvD K F4 H4 (wipe σ vs) (wipeE E4 vs) ∧ Ext F1 H1 F4 H4 (wipe σ vs) E0 (wipeE E4 vs) ∧ F4 L = none ∧ H4 L = some (.lst av) ∧ wipeE (wipeE E4 vs) vs = wipeE E4 vs := fun {F4 H4 E4} I4 X4 => by
      refine ⟨I4.unwiped (by rw [wipe_wipe]; exact w3), ?_, ?_, X4.keep _ _ H2L notL3, ?_⟩
      · have kk := kin_wipe X4.kin vs
        rw [w3', hw'] at kk
        exact X'.trans ⟨f1.trans X4.fz, fun b o e => (X4.new b o e).elim (fun z => f4 b o z) (fun z => .inr (f2.free z)), fun b o e n => X4.keep b o (f2 b o e) fun mm => n (mineB b mm), fun b o e => X4.live b o (f2 b o e), kk⟩
      · cases z : F4 L with
        | none => rfl
        | some u =>
          rcases X4.new L u z with e | e
          · rw [F2L] at e; cases e
          · rw [H2L] at e; cases e
      · apply List.ext_getElem?
        intro j
        rw [wipeE_get, wipeE_length]
        by_cases hj : j ∈ vs
        · rw [if_pos hj, wipeE_get, if_pos hj]
        · rw [if_neg hj]
    refine st σ3 F2 H2 E3 _ _ I3 q3 fun b F4 H4 E4 I4 X4 q4 => ?_
    cases b with
    | false =>
      rw [if_neg Bool.false_ne_true] at q4 ⊢
      obtain ⟨g1, g2, g3, g4, g5⟩ := back I4 X4
      exact ⟨_, by omega, rfl, hl, F4, _, av, ad, g1, g2, g3, g4, dpa_same (f1.trans X4.fz) ha, by omega, g5, q4⟩
    | true =>
      rw [if_pos rfl] at q4 ⊢
      refine se σ3 F4 H4 E4 _ _ I4 q4 fun v F5 H5 E5 y I5 X5 r5 q5 => ?_
      obtain ⟨d, rfl, q6⟩ := onD_of q5
      obtain ⟨g1, g2, g3, g4, g5⟩ := back I5 (X4.trans X5)
      have lv := dpa_len ha
      have nm : ¬ Mine (wipe σ vs) (wipeE E5 vs) L := fun mm => notL ((mine_kin g2.kin.2).mpr mm)
      refine ⟨av, g4, Nat.lt_of_le_of_lt (Nat.le_trans (Nat.le_of_eq lv) hlen) (Nat.lt_of_lt_of_le hl (line1m hsz)), _, by omega, rfl, hl, F5, wipeE E5 vs, av ++ [v], ad ++ [d], g1.poke g3 nm, ?_, g3, upd_same, dpa_append (dpa_same ((f1.trans X4.fz).trans X5.fz) ha) (.cons r5 .nil), ?_, g5, q6⟩
      · refine ⟨g2.fz, g2.new, fun b o e n => ?_, fun b o e => ?_, g2.kin⟩
        · rw [upd_ne (ne_of_none e hL)]
          exact g2.keep b o e n
        · rw [upd_ne (ne_of_none e hL)]
          exact g2.live b o e
      · rw [List.length_append, List.length_singleton]
        omega
  · have e : i = ds.length := by omega
    subst e
    rw [List.drop_length] at q'
    refine .inl ⟨(jk _ F' H' X'.fz I'.sub).2 (Nat.le_refl _), ?_⟩
    have sm : Same F' (upd F' L (.lst av)) := same_upd fL
    have Xf : Ext F1 H1 (upd F' L (.lst av)) H' (wipe σ vs) E0 E' := ⟨X'.fz.trans sm, fun b o e => by
      by_cases hb : b = L
      · subst hb; exact .inr hL
      · rw [upd_ne hb] at e; exact X'.new b o e, X'.keep, X'.live, X'.kin⟩
    have hl2 : E'.length = E1.length := by rw [X'.kin.1, ← hE0, wipeE_length]
    rw [← hE0] at Xf
    exact k _ (upd F' L (.lst av)) H' (backE E1 E' vs) (.d (.list ad)) (I1.back hfree Xf.fz hl2 (I'.freeze fL hLs notL')) (X1.trans (Ext.back hfree Xf)) (Dp.lst upd_same (dpa_same sm ha)) q'
/-- the readings of a block -/
def canG (K : PySem.W.Frag) (vs : List Nat) (w : WG) : TG := fun v σ H Q => ∃ d F E Qd, EnvD K F H σ E ∧ Dp K F v d ∧ w d E Qd ∧
  ∀ σ' E', EnvD K F H σ' E' → (∀ b, Mine σ' E' b → Mine σ E b) → wipe σ' vs = wipe σ vs → wipeE E' vs = wipeE E vs → Qd E' → Q σ' H
theorem snd_canG {w : WG} : SndG K vs (canG K vs w) w := fun v d σ F H E Qd Q I r q k => ⟨d, F, E, Qd, I, r, q, k⟩
theorem pug_can {w : WG} (h : PUG X vs tg w) : PG X tg (canG X.K vs w) := by
  obtain ⟨g, p, s⟩ := h.ex
  exact ⟨fun pins st σ H v u Q I r ⟨d, F, E, Qd, J, rd, q, k⟩ => p.run pins st σ H v u Q I r (s v d σ F H E Qd Q J rd q k)⟩
theorem pu_lc {elt : Expr} {ifs : List Expr} {scope : Scope} {own : List (Str × Nat)} {wi : WI} {wg : WG} {wt : WT} {we : WE} (hN : X.N.Nodup) (ok : BlkOk X.N X.env.scope scope own) (hi : PUI X tg iter wi)
    (hg : ∀ (s : Shared) (H : Hp) (C : Addr) (cl : List (Str × Addr)) (fp : List Addr), PUG (X.blk s H scope (compEnvC scope cl C X.env) fp) (own.map (·.2)) tg wg) (ht : ∀ (s : Shared) (H : Hp) (C : Addr) (cl : List (Str × Addr)) (fp : List Addr), PUTs (X.blk s H scope (compEnvC scope cl C X.env) fp) ifs wt)
    (he : ∀ (s : Shared) (H : Hp) (C : Addr) (cl : List (Str × Addr)) (fp : List Addr), PU (X.blk s H scope (compEnvC scope cl C X.env) fp) elt we) (hc : X.calm = true := by rfl) (hs : ∀ x, foldedSetIterable iter X.env x = pure x := by intro _; rfl) :
    PU X (.ListComp elt [⟨tg, iter, ifs, 0⟩] scope pos) (wLc wi wg wt we (own.map (·.2))) := by
  obtain ⟨ti, pi, si⟩ := hi.ex
  exact ⟨_, pe_lc (g := canG X.K (own.map (·.2)) wg) (tt := canT X.K wt) (te := can X.K we) hc hN pi ok (fun s H C cl fp => pug_can (hg s H C cl fp)) (fun s H C cl fp => puts_can (ht s H C cl fp)) (fun s H C cl fp => pu_can (he s H C cl fp)) hs, snd_lc si snd_canG snd_canT snd_can⟩
theorem pus_setLc {y : Str} {py : Pos} {elt : Expr} {ifs : List Expr} {scope : Scope} {own : List (Str × Nat)} {spos : Pos} {wi : WI} {wg : WG} {wt : WT} {we : WE} (i : Nat) (hN : X.N.Nodup) (ok : BlkOk X.N X.env.scope scope own) (hi : PUI X tg iter wi)
    (hg : ∀ (s : Shared) (H : Hp) (C : Addr) (cl : List (Str × Addr)) (fp : List Addr), PUG (X.blk s H scope (compEnvC scope cl C X.env) fp) (own.map (·.2)) tg wg) (ht : ∀ (s : Shared) (H : Hp) (C : Addr) (cl : List (Str × Addr)) (fp : List Addr), PUTs (X.blk s H scope (compEnvC scope cl C X.env) fp) ifs wt)
    (he : ∀ (s : Shared) (H : Hp) (C : Addr) (cl : List (Str × Addr)) (fp : List Addr), PU (X.blk s H scope (compEnvC scope cl C X.env) fp) elt we)
    (hsw : swapsWith (.ListComp elt [⟨tg, iter, ifs, 0⟩] scope pos) (some (.Name y py)) spos.line X.env = pure true) (hc : X.calm = true := by rfl) (hy : X.N[i]? = some y := by rfl) (hyl : X.env.scope.names.lookup y = some .local := by rfl) (hs : ∀ x, foldedSetIterable iter X.env x = pure x := by intro _; rfl) :
    PUS X (.Assign [.Name y py] (.ListComp elt [⟨tg, iter, ifs, 0⟩] scope pos) spos) (wSet i (wFz (wLc wi wg wt we (own.map (·.2))))) := by
  obtain ⟨ti, pi, si⟩ := hi.ex
  refine ⟨_, ps_setLc (g := canG X.K (own.map (·.2)) wg) (tt := canT X.K wt) (te := can X.K we) hc hN hy hyl hsw pi ok (fun s H C cl fp => pug_can (hg s H C cl fp)) (fun s H C cl fp => puts_can (ht s H C cl fp)) (fun s H C cl fp => pu_can (he s H C cl fp)) hs, fun σ F H E Dd Dv I q k => ?_⟩
  refine snd_lc si snd_canG snd_canT snd_can σ F H E (fun x E1 => onD x fun d => Dd.nx (E1.set i (.fz d))) _ I q fun v F1 H1 E1 x I1 X1 r1 q1 => ?_
  obtain ⟨d, rfl, q2⟩ := onD_of q1
  have hv : VOk X.K F1 H1 H v (.fz d) := ⟨⟨v, rfl, r1⟩, fun z => by cases z⟩
  exact k.nx F1 H1 _ _ (I1.setv i hv.at_ (hv.fresh I X1)) (.set X1 i hv) q2
end
end AF

set_option Elab.async false
set_option linter.all false
set_option maxRecDepth 100000
set_option maxHeartbeats 2000000
namespace AF
open PySem PySem.Spec PyProof.Rows L2
section
variable {X : Cx} {K : PySem.W.Frag} {a b e : Expr} {es : List Expr} {pos p : Pos} {x : Str}

/-! ### a call of an own def -/
abbrev PD := List D → (D → Prop) → Prop
def spD (K : PySem.W.Frag) (n : Nat) (f : PD) : Sp := fun vs H Q _ => vs.length = n ∧ ∃ F ds R, Same F H ∧ DpAll K F vs ds ∧ f ds R ∧
  ∀ v F' H' d, Same F F' → Same F' H' → Same H H' → (∀ b o, F' b = some o → F b = some o ∨ H b = none) → Dp K F' v d → R d → Q v H'
def wFun (f : PD) (w : WA) : WE := fun E Q => w E fun xs E1 => onO (frz xs) fun ds => f ds fun d => Q (.d d) E1
theorem snd_fun {n : Nat} {f : PD} {t : TA} {w : WA} (ht : SndA K t w) (hn : ∀ ds R, f ds R → ds.length = n) : Snd K (tCall (spD K n f) [] E0 t) (wFun f w) := by
  intro σ F H E Qd Q I q k
  refine ht σ F H E _ _ I q fun vs F1 H1 E1 xs I1 X1 r1 q1 => ?_
  obtain ⟨ds, e1, q2⟩ := onO_of q1
  have hd := frz_dpa r1 e1
  rw [List.append_nil]
  exact ⟨by rw [dpa_len hd]; exact hn _ _ q2, F1, ds, _, I1.sub, hd, q2, fun v F2 H2 d f1 f2 f3 f4 r q3 => k v F2 H2 E1 (.d d) (I1.grow f1 f3 f2 f4) (X1.trans (Ext.grow f1 f3 f4)) r q3⟩
theorem pu_fun {n k : Nat} {f : PD} {g : Addr} {fd : FuncData} {ps : List Str} {w : WA} (Fo : FnOk X.prog X.w X.K X.mg X.base CX0 k g fd ps (spD X.K n f)) (hr : Room k X.A) (hm : X.mg x = some (.ref g)) (hk : PySem.W.keepIn X.K (.ref g) = true) (hb : Binds X.K fd ps [])
    (ha : PUA X (e :: es) w) (hn : ∀ ds R, f ds R → ds.length = n) (hg : Gl X x := by rfl) (hdb : (x == ("__debug__" : Str)) = false := by decide) (he : starEach (e :: es) X.env = (false, eval e X.env) :: starEach es X.env := by rfl) (hpl : (backTo pos (starEach es X.env)).any (·.1) = false := by rfl) :
    PU X (.Call (.Name x p) (e :: es) [] pos) (wFun f w) := by
  obtain ⟨t, pt, st⟩ := ha.ex
  exact ⟨_, pe_call Fo hr hg hm hk hb .nil pass0 pt hdb he hpl, snd_fun st hn⟩

/-! ### an own thing changed -/
theorem own_upd {F H F' H' : Hp} {σ : L2.St} {E : Env'} {i : Nat} {c : Addr} {s s' : Sl} (I : EnvD K F H σ E) (hs : E[i]? = some s) (ho : s.own = true) (ho' : s'.own = true) (ha : σ[i]? = some (some (.ref c))) (f : Same F F') (sub : Same F' H')
    (kp : ∀ b o, b ≠ c → H b = some o → H' b = some o) (nw : ∀ b o, F' b = some o → F b = some o ∨ H b = none) (new : SlAt K F' H' (some (.ref c)) s') (lv : ∃ o, H' c = some o) : EnvD K F' H' σ (E.set i s') ∧ Ext F H F' H' σ E (E.set i s') := by
  have oi : OwnAt E i := ⟨s, hs, ho⟩
  have hl : i < E.length := (List.getElem?_eq_some_iff.mp hs).1
  have ownj : ∀ j, OwnAt (E.set i s') j ↔ OwnAt E j := fun j => by
    by_cases hj : i = j
    · subst hj
      exact ⟨fun _ => oi, fun _ => ⟨s', List.getElem?_set_self hl, ho'⟩⟩
    · unfold OwnAt
      rw [List.getElem?_set_ne hj]
  have nn : ∀ {b : Addr} {u : HO}, F b = none → H b = some u → F' b = none := fun {b u} h1 h2 => by
    cases q : F' b with
    | none => rfl
    | some z =>
      rcases nw b z q with r | r
      · rw [h1] at r; cases r
      · rw [h2] at r; cases r
  refine ⟨⟨sub, by rw [List.length_set]; exact I.len, fun j u o e1 e2 => ?_, fun j k b hjk o1 o2 e1 e2 => I.sep j k b hjk ((ownj j).mp o1) ((ownj k).mp o2) e1 e2⟩,
    ⟨f, nw, fun b o e n => kp b o (fun z => n ⟨i, oi, by rw [z]; exact ha⟩) e, fun b o e => ?_, by rw [List.length_set], fun j => ⟨(ownj j).symm, fun n => List.getElem?_set_ne (fun z => n (by rw [← z]; exact oi))⟩⟩⟩
  · by_cases hj : i = j
    · subst hj
      rw [List.getElem?_set_self hl] at e1
      rw [ha] at e2
      cases e1
      cases e2
      exact new
    · rw [List.getElem?_set_ne hj] at e1
      have h := I.at_ j u o e1 e2
      have ne : ∀ {b : Addr}, u.own = true → o = some (.ref b) → b ≠ c := fun {b} ow eb z => by
        subst eb; subst z
        exact I.sep i j b hj oi ⟨u, e1, ow⟩ ha e2
      cases u with
      | no => exact True.intro
      | fz d => obtain ⟨v, e, r⟩ := h; exact ⟨v, e, dp_same f r⟩
      | ol d => obtain ⟨b, xs, e, h1, h2, r⟩ := h; exact ⟨b, xs, e, nn h1 h2, kp _ _ (ne rfl e) h2, dpa_same f r⟩
      | od d => obtain ⟨b, xs, e, h1, h2, r⟩ := h; exact ⟨b, xs, e, nn h1 h2, kp _ _ (ne rfl e) h2, Paired.mapP r fun p r z => ⟨z.1, dp_same f z.2⟩⟩
      | ot d => obtain ⟨b, xs, e, h1, h2, r⟩ := h; exact ⟨b, xs, e, nn h1 h2, kp _ _ (ne rfl e) h2, Paired.mapP r fun p r z => ⟨z.1, dp_same f z.2⟩⟩
      | dc b d => obtain ⟨xs, e, h1, h2, r⟩ := h; exact ⟨xs, e, nn h1 h2, kp _ _ (ne rfl e) h2, dpa_same f r⟩
      | tb P q => obtain ⟨ps, e, h1, h2, t, r⟩ := h; exact ⟨ps, e, nn h1 h2, kp _ _ (ne rfl e) h2, t, tabF_same f r⟩
      | fl fs => obtain ⟨a, xs, e, h1, h2, q⟩ := h; exact ⟨a, xs, e, nn h1 h2, kp _ _ (ne rfl e) h2, fnVs_same f q⟩
      | fv d => obtain ⟨v, e, q⟩ := h; exact ⟨v, e, fnV_same f q⟩
      | vv v d => exact ⟨h.1, dp_same f h.2⟩
  · by_cases hb : b = c
    · rw [hb]; exact lv
    · exact ⟨o, kp b o hb e⟩
/-- the heap changed at an own place alone, nothing frozen -/
theorem own_poke {F H : Hp} {σ : L2.St} {E : Env'} {i : Nat} {c : Addr} {s s' : Sl} {o : HO} (I : EnvD K F H σ E) (hs : E[i]? = some s) (ho : s.own = true) (ho' : s'.own = true) (ha : σ[i]? = some (some (.ref c))) (hF : F c = none) (new : SlAt K F (upd H c o) (some (.ref c)) s') :
    EnvD K F (upd H c o) σ (E.set i s') ∧ Ext F H F (upd H c o) σ E (E.set i s') :=
  own_upd I hs ho ho' ha (Same.refl F) (fun b u e => by rw [upd_ne (ne_of_none e hF)]; exact I.sub b u e) (fun b u hb e => by rw [upd_ne hb]; exact e) (fun b u e => .inl e) new ⟨o, upd_same⟩

/-! ### own lists: append, pop(0) -/
theorem EnvD.ol {F H : Hp} {σ : L2.St} {E : Env'} {i : Nat} {ds : List D} (I : EnvD K F H σ E) (h : E[i]? = some (.ol ds)) : ∃ c xs, σ[i]? = some (some (.ref c)) ∧ F c = none ∧ H c = some (.lst xs) ∧ DpAll K F xs ds := by
  obtain ⟨o, ho, c, xs, e, h1, h2, h3⟩ := I.slot h
  subst e
  exact ⟨c, xs, ho, h1, h2, h3⟩
def onOl (o : Option Sl) (k : List D → Prop) : Prop := match o with
  | some (.ol ds) => k ds
  | _ => False
theorem onOl_of {o : Option Sl} {k : List D → Prop} (h : onOl o k) : ∃ ds, o = some (.ol ds) ∧ k ds := by
  match o, h with
  | some (.ol ds), h => exact ⟨ds, rfl, h⟩
def wApp (i : Nat) (w : WE) : WE := fun E Q => onOl E[i]? fun _ => w E fun x E1 => onD x fun d => onOl E1[i]? fun ds => ds.length ≤ 1000000 ∧ Q (.d .none) (E1.set i (.ol (ds ++ [d])))
theorem own_there {F H F1 H1 : Hp} {σ : L2.St} {E E1 : Env'} {i : Nat} {ds : List D} (x : Ext F H F1 H1 σ E E1) (h : E[i]? = some (.ol ds)) : OwnAt E1 i := (x.kin.2 i).1.mp ⟨_, h, rfl⟩
theorem pu_append {w : WE} {y : Str} {apos py : Pos} (i : Nat) (h : PU X e w) (hN : X.N[i]? = some y := by rfl) (hv : Vis X.env.scope y := by first | exact Or.inl rfl | exact Or.inr (Or.inl rfl) | exact Or.inr (Or.inr rfl)) (hd : (y == ("__debug__" : Str)) = false := by decide)
    (hcd : (y == ("__classdict__" : Str)) = false := by decide) (hbase : attributeBase (.Name y py) "append" X.env (eval (.Name y py) X.env) = eval (.Name y py) X.env := by rfl)
    (hfew : ((backTo pos (starEach [e] X.env)).all (fun x => !x.1) && (backToKw pos (keywordEach [] X.env)).all (fun x => x.1.isSome)
      && decide (([e] : List Expr).length + ([] : List Keyword).length + (if ([] : List Keyword).isEmpty then 0 else 1) < 30)) = true := by rfl)
    (hline : (apos.endLine == pos.line) = true := by rfl) (hs : starEach [e] X.env = (false, eval e X.env) :: starEach [] X.env := by rfl) (hplain : (backTo pos (starEach [] X.env)).any (·.1) = false := by rfl) :
    PU X (.Call (.Attribute (.Name y py) "append" apos) [e] [] pos) (wApp i w) := by
  obtain ⟨t, p, s⟩ := h.ex
  refine ⟨_, pe_bm PySem.F.plainAttrs_list PySem.F.slot_list_append PySem.F.type_list_append mt_append (pe_var hN hv hd hcd) (pa_cons p pa_nil hs) hbase hfew hline hs hplain, fun σ F H E Qd Q I q k => ?_⟩
  obtain ⟨ds0, e0, q⟩ := onOl_of q
  obtain ⟨c, xs0, hc, hF0, hH0, _⟩ := I.ol e0
  refine ⟨.ref c, hc, .inl ⟨rfl, xs0, .inl (.inl hH0)⟩, ?_⟩
  refine s σ F H E _ _ I q fun v F1 H1 E1 u I1 X1 r1 q1 => ?_
  obtain ⟨d, rfl, q2⟩ := onD_of q1
  obtain ⟨ds, e1, hz, q3⟩ := onOl_of q2
  obtain ⟨c', xs, hc', hF, hH, hd⟩ := I1.ol e1
  rw [hc] at hc'
  cases hc'
  have hl := dpa_len hd
  refine ⟨c, xs, v, rfl, rfl, hH, Nat.lt_of_le_of_lt (Nat.le_trans (Nat.le_of_eq hl) hz) (by decide), ?_⟩
  obtain ⟨I2, X2⟩ := own_poke (s' := .ol (ds ++ [d])) (o := .lst (xs ++ [v])) I1 e1 rfl rfl hc hF ⟨c, _, rfl, hF, upd_same, dpa_append hd (.cons r1 .nil)⟩
  exact k .non F1 _ _ (.d .none) I2 (X1.trans X2) Dp.non q3
def wPop0 (i : Nat) : WE := fun E Q => onOl E[i]? fun ds => match ds with
  | d :: r => Q (.d d) (E.set i (.ol r))
  | [] => False
theorem pu_pop0 {j : Nat} {y : Str} {apos py p0 : Pos} (i : Nat) (hN : X.N[i]? = some y := by rfl) (hv : Vis X.env.scope y := by first | exact Or.inl rfl | exact Or.inr (Or.inl rfl) | exact Or.inr (Or.inr rfl)) (hd : (y == ("__debug__" : Str)) = false := by decide)
    (hcd : (y == ("__classdict__" : Str)) = false := by decide) (hbase : attributeBase (.Name y py) "pop" X.env (eval (.Name y py) X.env) = eval (.Name y py) X.env := by rfl)
    (hfew : ((backTo pos (starEach [.Constant (.int 0) j p0] X.env)).all (fun x => !x.1) && (backToKw pos (keywordEach [] X.env)).all (fun x => x.1.isSome)
      && decide (([.Constant (.int 0) j p0] : List Expr).length + ([] : List Keyword).length + (if ([] : List Keyword).isEmpty then 0 else 1) < 30)) = true := by rfl)
    (hline : (apos.endLine == pos.line) = true := by rfl) (hs : starEach [.Constant (.int 0) j p0] X.env = (false, eval (.Constant (.int 0) j p0) X.env) :: starEach [] X.env := by rfl) (hplain : (backTo pos (starEach [] X.env)).any (·.1) = false := by rfl) :
    PU X (.Call (.Attribute (.Name y py) "pop" apos) [.Constant (.int 0) j p0] [] pos) (wPop0 i) := by
  refine ⟨_, pe_bm PySem.F.plainAttrs_list PySem.F.slot_list_pop PySem.F.type_list_pop mt_popAt (pe_var hN hv hd hcd) (pa_cons pe_int pa_nil hs) hbase hfew hline hs hplain, fun σ F H E Qd Q I q k => ?_⟩
  obtain ⟨ds, e0, q⟩ := onOl_of q
  obtain ⟨c, xs, hc, hF, hH, hd⟩ := I.ol e0
  match ds, hd, q, e0 with
  | d :: r, hd, q, e0 =>
    cases hd with
    | cons h1 h2 =>
    rename_i v us
    refine ⟨.ref c, hc, .inl ⟨rfl, _, .inl (.inl hH)⟩, c, v :: us, 0, 0, v, rfl, rfl, hH, by decide, by decide, ?_, rfl, ?_⟩
    · exact seqIndex_of (by decide) (by rw [List.length_cons]; omega)
    · obtain ⟨I2, X2⟩ := own_poke (s' := .ol r) (o := .lst us) I e0 rfl rfl hc hF ⟨c, _, rfl, hF, upd_same, h2⟩
      exact k v F _ _ (.d d) I2 X2 h1 q

/-! ### own dicts -/
def keyOf : D → Option Key
  | .int i => some (.inl i)
  | .str x => some (.inr x)
  | _ => none
theorem keyOf_kV {H : Hp} {v : V} {d : D} {k : Key} (h : Dp K H v d) (e : keyOf d = some k) : v = kV k := by
  cases h <;> first | (cases e; rfl) | cases e
def onOd (o : Option Sl) (k : List (Key × D) → Prop) : Prop := match o with
  | some (.od ds) => k ds
  | _ => False
theorem onOd_of {o : Option Sl} {k : List (Key × D) → Prop} (h : onOd o k) : ∃ ds, o = some (.od ds) ∧ k ds := by
  match o, h with
  | some (.od ds), h => exact ⟨ds, rfl, h⟩
theorem EnvD.od {F H : Hp} {σ : L2.St} {E : Env'} {i : Nat} {ds : List (Key × D)} (I : EnvD K F H σ E) (h : E[i]? = some (.od ds)) : ∃ c xs, σ[i]? = some (some (.ref c)) ∧ F c = none ∧ H c = some (.dK xs) ∧ KVd K F xs ds := by
  obtain ⟨o, ho, c, xs, e, h1, h2, h3⟩ := I.slot h
  subst e
  exact ⟨c, xs, ho, h1, h2, h3⟩
def getD {κ : Type} [DecidableEq κ] (kvs : List (κ × D)) (k : κ) : Option D := (kvs.find? fun kv => decide (kv.1 = k)).map (·.2)
def putD {κ : Type} [DecidableEq κ] (kvs : List (κ × D)) (k : κ) (d : D) : List (κ × D) :=
  if (kvs.any fun kv => decide (kv.1 = k)) = true then kvs.map (fun kv => if kv.1 = k then (kv.1, d) else kv) else kvs ++ [(k, d)]
theorem kvd_get {κ : Type} [DecidableEq κ] {F : Hp} {k : κ} : ∀ {xs : List (κ × V)} {ds : List (κ × D)}, KVd K F xs ds → (∃ v d, valV xs k = some v ∧ getD ds k = some d ∧ Dp K F v d) ∨ (valV xs k = none ∧ getD ds k = none)
  | _, _, .nil => .inr ⟨rfl, rfl⟩
  | (k1, v) :: xs, (k2, d) :: ds, .cons ⟨e, r⟩ t => by
    have e : k1 = k2 := e
    subst e
    by_cases h : k1 = k
    · exact .inl ⟨v, d, by simp [valV, h], by simp [getD, h], r⟩
    · have e1 : valV ((k1, v) :: xs) k = valV xs k := by simp [valV, h]
      have e2 : getD ((k1, d) :: ds) k = getD ds k := by simp [getD, h]
      rw [e1, e2]
      exact kvd_get t
theorem kvd_any {κ : Type} [DecidableEq κ] {F : Hp} {k : κ} : ∀ {xs : List (κ × V)} {ds : List (κ × D)}, KVd K F xs ds → (xs.any fun kv => decide (kv.1 = k)) = (ds.any fun kv => decide (kv.1 = k))
  | _, _, .nil => rfl
  | (k1, v) :: xs, (k2, d) :: ds, .cons ⟨e, r⟩ t => by
    have e : k1 = k2 := e
    subst e
    rw [List.any_cons, List.any_cons, kvd_any t]
theorem kvd_map {κ : Type} [DecidableEq κ] {F : Hp} {k : κ} {v : V} {d : D} (r : Dp K F v d) : ∀ {xs : List (κ × V)} {ds : List (κ × D)}, KVd K F xs ds → KVd K F (xs.map fun kv => if kv.1 = k then (kv.1, v) else kv) (ds.map fun kv => if kv.1 = k then (kv.1, d) else kv)
  | _, _, .nil => .nil
  | (k1, v1) :: xs, (k2, d1) :: ds, .cons ⟨e, r1⟩ t => by
    have e : k1 = k2 := e
    subst e
    refine .cons ?_ (kvd_map r t)
    by_cases h : k1 = k
    · show (if k1 = k then (k1, v) else (k1, v1)).1 = (if k1 = k then (k1, d) else (k1, d1)).1 ∧ Dp K F (if k1 = k then (k1, v) else (k1, v1)).2 (if k1 = k then (k1, d) else (k1, d1)).2
      rw [if_pos h, if_pos h]; exact ⟨rfl, r⟩
    · show (if k1 = k then (k1, v) else (k1, v1)).1 = (if k1 = k then (k1, d) else (k1, d1)).1 ∧ Dp K F (if k1 = k then (k1, v) else (k1, v1)).2 (if k1 = k then (k1, d) else (k1, d1)).2
      rw [if_neg h, if_neg h]; exact ⟨rfl, r1⟩
theorem kvd_append {κ : Type} {F : Hp} {k : κ} {v : V} {d : D} (r : Dp K F v d) : ∀ {xs : List (κ × V)} {ds : List (κ × D)}, KVd K F xs ds → KVd K F (xs ++ [(k, v)]) (ds ++ [(k, d)])
  | _, _, .nil => .cons ⟨rfl, r⟩ .nil
  | _ :: _, _ :: _, .cons h t => .cons h (kvd_append r t)
theorem kvd_put {κ : Type} [DecidableEq κ] {F : Hp} {k : κ} {v : V} {d : D} {xs : List (κ × V)} {ds : List (κ × D)} (h : KVd K F xs ds) (r : Dp K F v d) : KVd K F (putK xs k v) (putD ds k d) := by
  unfold putK putD
  rw [kvd_any h]
  split
  · exact kvd_map r h
  · exact kvd_append r h
theorem kvd_len {κ : Type} {F : Hp} : ∀ {xs : List (κ × V)} {ds : List (κ × D)}, KVd K F xs ds → xs.length = ds.length
  | _, _, .nil => rfl
  | _ :: _, _ :: _, .cons _ t => by rw [List.length_cons, List.length_cons, kvd_len t]
/-- k in d, d[k] -/
def wIn (neg : Bool) (i : Nat) (w : WE) : WE := fun E Q => w E fun x E1 => onD x fun d => onO (keyOf d) fun k => onOd E1[i]? fun kvs => Q (.d (.bool (if neg then !(getD kvs k).isSome else (getD kvs k).isSome))) E1
theorem dget_of {F H : Hp} {c : Addr} {xs : List (Key × V)} {v : V} {d : D} {k : Key} (hH : H c = some (.dK xs)) (r : Dp K F v d) (e : keyOf d = some k) : DGet H c v (valV xs k) := by
  rw [keyOf_kV r e]
  exact .k hH
theorem pu_in {w : WE} {y : Str} {py : Pos} (i : Nat) (h : PU X e w) (hu : X.A.units + 1 < cLine) (hN : X.N[i]? = some y := by rfl) (hv : Vis X.env.scope y := by first | exact Or.inl rfl | exact Or.inr (Or.inl rfl) | exact Or.inr (Or.inr rfl)) (hd : (y == ("__debug__" : Str)) = false := by decide)
    (hcd : (y == ("__classdict__" : Str)) = false := by decide) (hm : behindInMarks .In (.Name y py) = false := by rfl) : PU X (.Compare e [.In] [.Name y py] pos) (wIn false i w) := by
  obtain ⟨t, p, s⟩ := h.ex
  refine ⟨_, pe_cmp (pc_din hu p (pe_var hN hv hd hcd)) hm, fun σ F H E Qd Q I q k => ?_⟩
  refine s σ F H E _ _ I q fun v F1 H1 E1 u I1 X1 r1 q1 => ?_
  obtain ⟨d, rfl, q2⟩ := onD_of q1
  obtain ⟨kk, ek, q3⟩ := onO_of q2
  obtain ⟨kvs, e1, q4⟩ := onOd_of q3
  obtain ⟨c, xs, hc, hF, hH, hkv⟩ := I1.od e1
  refine ⟨.ref c, hc, c, _, rfl, dget_of hH r1 ek, ?_⟩
  have e : (valV xs kk).isSome = (getD kvs kk).isSome := by
    rcases kvd_get (k := kk) hkv with ⟨v, d, g1, g2, _⟩ | ⟨g1, g2⟩ <;> rw [g1, g2] <;> rfl
  rw [e]
  exact k _ F1 H1 E1 (.d (.bool _)) I1 X1 (Dp.bl _) q4
theorem pu_notin {w : WE} {y : Str} {py : Pos} (i : Nat) (h : PU X e w) (hu : X.A.units + 1 < cLine) (hN : X.N[i]? = some y := by rfl) (hv : Vis X.env.scope y := by first | exact Or.inl rfl | exact Or.inr (Or.inl rfl) | exact Or.inr (Or.inr rfl)) (hd : (y == ("__debug__" : Str)) = false := by decide)
    (hcd : (y == ("__classdict__" : Str)) = false := by decide) (hm : behindInMarks .NotIn (.Name y py) = false := by rfl) : PU X (.Compare e [.NotIn] [.Name y py] pos) (wIn true i w) := by
  obtain ⟨t, p, s⟩ := h.ex
  refine ⟨_, pe_cmp (pc_dnotin hu p (pe_var hN hv hd hcd)) hm, fun σ F H E Qd Q I q k => ?_⟩
  refine s σ F H E _ _ I q fun v F1 H1 E1 u I1 X1 r1 q1 => ?_
  obtain ⟨d, rfl, q2⟩ := onD_of q1
  obtain ⟨kk, ek, q3⟩ := onO_of q2
  obtain ⟨kvs, e1, q4⟩ := onOd_of q3
  obtain ⟨c, xs, hc, hF, hH, hkv⟩ := I1.od e1
  refine ⟨.ref c, hc, c, _, rfl, dget_of hH r1 ek, ?_⟩
  have e : (valV xs kk).isSome = (getD kvs kk).isSome := by
    rcases kvd_get (k := kk) hkv with ⟨v, d, g1, g2, _⟩ | ⟨g1, g2⟩ <;> rw [g1, g2] <;> rfl
  rw [e]
  exact k _ F1 H1 E1 (.d (.bool _)) I1 X1 (Dp.bl _) q4
def wDget (i : Nat) (w : WE) : WE := fun E Q => onOd E[i]? fun _ => w E fun x E1 => onD x fun d => onO (keyOf d) fun k => onOd E1[i]? fun kvs => onO (getD kvs k) fun z => Q (.d z) E1
theorem pu_dget {w : WE} {y : Str} {py : Pos} (i : Nat) (h : PU X e w) (hu : X.A.units + 1 < cLine) (hsl : NoSl e := by intro _ _; rfl) (hN : X.N[i]? = some y := by rfl) (hv : Vis X.env.scope y := by first | exact Or.inl rfl | exact Or.inr (Or.inl rfl) | exact Or.inr (Or.inr rfl)) (hd : (y == ("__debug__" : Str)) = false := by decide)
    (hcd : (y == ("__classdict__" : Str)) = false := by decide) : PU X (.Subscript (.Name y py) e pos) (wDget i w) := by
  obtain ⟨t, p, s⟩ := h.ex
  refine ⟨_, pe_dget hu (pe_var hN hv hd hcd) p hsl, fun σ F H E Qd Q I q k => ?_⟩
  obtain ⟨_, e0, q⟩ := onOd_of q
  obtain ⟨c, _, hc, _⟩ := I.od e0
  refine ⟨.ref c, hc, ?_⟩
  refine s σ F H E _ _ I q fun v F1 H1 E1 u I1 X1 r1 q1 => ?_
  obtain ⟨d, rfl, q2⟩ := onD_of q1
  obtain ⟨kk, ek, q3⟩ := onO_of q2
  obtain ⟨kvs, e1, q4⟩ := onOd_of q3
  obtain ⟨z, ez, q5⟩ := onO_of q4
  obtain ⟨c', xs, hc', hF, hH, hkv⟩ := I1.od e1
  rw [hc] at hc'
  cases hc'
  rcases kvd_get (k := kk) hkv with ⟨v', d', g1, g2, r⟩ | ⟨g1, g2⟩
  · rw [ez] at g2
    cases g2
    refine ⟨c, v', rfl, ?_, k v' F1 H1 E1 (.d z) I1 X1 r q5⟩
    rw [← g1]
    exact dget_of hH r1 ek
  · rw [ez] at g2
    cases g2
def wDput (i : Nat) (wk : WE) (wv : WV) : WS := fun Dd E => wv E fun s E1 => match s with
  | .fz d => onOd E1[i]? fun _ => wk E1 fun y E2 => onD y fun kd => onO (keyOf kd) fun k => onOd E2[i]? fun kvs => kvs.length ≤ 1000000 ∧ Dd.nx (E2.set i (.od (putD kvs k d)))
  | _ => False
theorem pus_dput {wk wv : WE} {y : Str} {py p2 : Pos} (i : Nat) (hk : PU X e wk) (hval : PU X a wv) (hu : X.A.units + 1 < cLine) (hs : swapsWith a (some (.Subscript (.Name y py) e p2)) pos.line X.env = pure false := by rfl) (hN : X.N[i]? = some y := by rfl) (hv : Vis X.env.scope y := by first | exact Or.inl rfl | exact Or.inr (Or.inl rfl) | exact Or.inr (Or.inr rfl)) (hd : (y == ("__debug__" : Str)) = false := by decide)
    (hcd : (y == ("__classdict__" : Str)) = false := by decide) : PUS X (.Assign [.Subscript (.Name y py) e p2] a pos) (wDput i wk (wFz wv)) := by
  obtain ⟨tv, pv, sv⟩ := hval.ex
  obtain ⟨tk, pk, sk⟩ := hk.ex
  refine ⟨_, ps_dput hu (pe_var hN hv hd hcd) pk pv hs, fun σ F H E Dd Dv I q k => ?_⟩
  refine sv σ F H E (fun x E1 => onD x fun d => onOd E1[i]? fun _ => wk E1 fun y E2 => onD y fun kd => onO (keyOf kd) fun k => onOd E2[i]? fun kvs => kvs.length ≤ 1000000 ∧ Dd.nx (E2.set i (.od (putD kvs k d)))) _ I q fun v F1 H1 E1 u I1 X1 r1 q1 => ?_
  obtain ⟨d, rfl, q2⟩ := onD_of q1
  obtain ⟨_, e0, q2⟩ := onOd_of q2
  obtain ⟨c, _, hc, _⟩ := I1.od e0
  refine ⟨.ref c, hc, ?_⟩
  refine sk σ F1 H1 E1 _ _ I1 q2 fun w F2 H2 E2 u I2 X2 r2 q3 => ?_
  obtain ⟨kd, rfl, q4⟩ := onD_of q3
  obtain ⟨kk, ek, q5⟩ := onO_of q4
  obtain ⟨kvs, e2, hz, q6⟩ := onOd_of q5
  obtain ⟨c', xs, hc', hF, hH, hkv⟩ := I2.od e2
  rw [hc] at hc'
  cases hc'
  have hl := kvd_len hkv
  rw [keyOf_kV r2 ek]
  obtain ⟨I3, X3⟩ := own_poke (s' := .od (putD kvs kk d)) (o := .dK (putK xs kk v)) I2 e2 rfl rfl hc hF ⟨c, _, rfl, hF, upd_same, kvd_put hkv (dp_same X2.fz r1)⟩
  exact ⟨c, _, rfl, .k hH (Nat.lt_of_le_of_lt (Nat.le_trans (Nat.le_of_eq hl) hz) (by decide)), k.nx F2 _ σ _ I3 ((X1.trans X2).trans X3).s q6⟩

/-! ### a dict with tuple keys, given by a def -/
def keysOf : List D → Option (List Key)
  | [] => some []
  | d :: ds => (keyOf d).bind fun k => (keysOf ds).map (k :: ·)
theorem keysOf_kV {H : Hp} : ∀ {vs : List V} {ds : List D} {ks : List Key}, DpAll K H vs ds → keysOf ds = some ks → vs = ks.map kV
  | _, _, _, .nil, e => by cases Option.some.inj e; rfl
  | v :: vs, d :: ds, ks, .cons h t, e => by
    have e : ((keyOf d).bind fun k => (keysOf ds).map (k :: ·)) = some ks := e
    cases e1 : keyOf d with
    | none => rw [e1] at e; cases e
    | some k1 =>
      rw [e1] at e
      have e : (keysOf ds).map (k1 :: ·) = some ks := e
      cases e2 : keysOf ds with
      | none => rw [e2] at e; cases e
      | some k2 =>
        rw [e2] at e
        cases Option.some.inj e
        rw [keyOf_kV h e1, keysOf_kV t e2]
        rfl
def onOt (o : Option Sl) (k : List (List Key × D) → Prop) : Prop := match o with
  | some (.ot ds) => k ds
  | _ => False
theorem onOt_of {o : Option Sl} {k : List (List Key × D) → Prop} (h : onOt o k) : ∃ ds, o = some (.ot ds) ∧ k ds := by
  match o, h with
  | some (.ot ds), h => exact ⟨ds, rfl, h⟩
theorem EnvD.ot {F H : Hp} {σ : L2.St} {E : Env'} {i : Nat} {ds : List (List Key × D)} (I : EnvD K F H σ E) (h : E[i]? = some (.ot ds)) : ∃ c xs, σ[i]? = some (some (.ref c)) ∧ F c = none ∧ H c = some (.dT xs) ∧ KVd K F xs ds := by
  obtain ⟨o, ho, c, xs, e, h1, h2, h3⟩ := I.slot h
  subst e
  exact ⟨c, xs, ho, h1, h2, h3⟩
def wInT (i : Nat) (w : WE) : WE := fun E Q => w E fun x E1 => onD x fun d => match d with
  | .tuple ds => onO (keysOf ds) fun ks => onOt E1[i]? fun kvs => Q (.d (.bool (getD kvs ks).isSome)) E1
  | _ => False
theorem pu_inT {w : WE} {y : Str} {py : Pos} (i : Nat) (h : PU X e w) (hu : X.A.units + 1 < cLine) (hN : X.N[i]? = some y := by rfl) (hv : Vis X.env.scope y := by first | exact Or.inl rfl | exact Or.inr (Or.inl rfl) | exact Or.inr (Or.inr rfl)) (hd : (y == ("__debug__" : Str)) = false := by decide)
    (hcd : (y == ("__classdict__" : Str)) = false := by decide) (hm : behindInMarks .In (.Name y py) = false := by rfl) : PU X (.Compare e [.In] [.Name y py] pos) (wInT i w) := by
  obtain ⟨t, p, s⟩ := h.ex
  refine ⟨_, pe_cmp (pc_din hu p (pe_var hN hv hd hcd)) hm, fun σ F H E Qd Q I q k => ?_⟩
  refine s σ F H E _ _ I q fun v F1 H1 E1 u I1 X1 r1 q1 => ?_
  obtain ⟨d, rfl, q2⟩ := onD_of q1
  have r1 : Dp X.K F1 v d := r1
  cases r1 <;> first | exact False.elim q2 | skip
  rename_i b vs ds hs ha
  obtain ⟨ks, ek, q3⟩ := onO_of q2
  obtain ⟨kvs, e1, q4⟩ := onOt_of q3
  obtain ⟨c, xs, hc, hF, hH, hkv⟩ := I1.ot e1
  cases keysOf_kV ha ek
  refine ⟨.ref c, hc, c, _, rfl, .t hH (I1.sub _ _ hs), ?_⟩
  have e : (valV xs ks).isSome = (getD kvs ks).isSome := by
    rcases kvd_get (k := ks) hkv with ⟨v, d, g1, g2, _⟩ | ⟨g1, g2⟩ <;> rw [g1, g2] <;> rfl
  rw [e]
  exact k _ F1 H1 E1 (.d (.bool _)) I1 X1 (Dp.bl _) q4
abbrev PT' := List D → (List (List Key × D) → Prop) → Prop
def spT (K : PySem.W.Frag) (n : Nat) (f : PT') : Sp := fun vs H Q _ => vs.length = n ∧ ∃ F ds R, Same F H ∧ DpAll K F vs ds ∧ f ds R ∧
  ∀ p F' H' xs kvs, H p = none → Same F F' → Same F' H' → Same H H' → (∀ b o, F' b = some o → F b = some o ∨ H b = none) → F' p = none → H' p = some (.dT xs) → KVd K F' xs kvs → R kvs → Q (.ref p) H'
def wFunT (f : PT') (w : WA) : WV := fun E Q => w E fun xs E1 => onO (frz xs) fun ds => f ds fun kvs => Q (.ot kvs) E1
theorem puv_funT {n k : Nat} {f : PT'} {g : Addr} {fd : FuncData} {ps : List Str} {w : WA} (Fo : FnOk X.prog X.w X.K X.mg X.base CX0 k g fd ps (spT X.K n f)) (hr : Room k X.A) (hm : X.mg x = some (.ref g)) (hk : PySem.W.keepIn X.K (.ref g) = true) (hb : Binds X.K fd ps [])
    (ha : PUA X (e :: es) w) (hn : ∀ ds R, f ds R → ds.length = n) (hg : Gl X x := by rfl) (hdb : (x == ("__debug__" : Str)) = false := by decide) (he : starEach (e :: es) X.env = (false, eval e X.env) :: starEach es X.env := by rfl) (hpl : (backTo pos (starEach es X.env)).any (·.1) = false := by rfl) :
    PUV X (.Call (.Name x p) (e :: es) [] pos) (wFunT f w) := by
  obtain ⟨t, pt, st⟩ := ha.ex
  refine ⟨_, pe_call Fo hr hg hm hk hb .nil pass0 pt hdb he hpl, fun σ F H E Qd Q I q k => ?_⟩
  refine st σ F H E _ _ I q fun vs F1 H1 E1 xs I1 X1 r1 q1 => ?_
  obtain ⟨ds, e1, q2⟩ := onO_of q1
  have hd := frz_dpa r1 e1
  rw [List.append_nil]
  exact ⟨by rw [dpa_len hd]; exact hn _ _ q2, F1, ds, _, I1.sub, hd, q2, fun p F2 H2 xs kvs hp f1 f2 f3 f4 hF hH hkv q3 =>
    k _ F2 H2 E1 (.ot kvs) (I1.grow f1 f3 f2 f4) (X1.trans (Ext.grow f1 f3 f4)) ⟨⟨p, xs, rfl, hF, hH, hkv⟩, fun _ => ⟨p, rfl, back_none X1.live hp, by rw [hH]; exact fun z => by cases z⟩⟩ q3⟩

/-! ### a call that takes the dice -/
abbrev PO' := List D → List D → (D → List D → Prop) → Prop
def spO (K : PySem.W.Frag) (n : Nat) (f : PO') : Sp := fun vs H Q _ => vs.length = n ∧ ∃ (a : Addr) (us : List V) (F : Hp) (xs : List V) (es ds : List D) (R : D → List D → Prop), vs = .ref a :: us ∧ Same F H ∧ F a = none ∧ H a = some (.lst xs) ∧ DpAll K F xs es ∧ DpAll K F us ds ∧ f es ds R ∧
  ∀ v F' H' d xs' es', Same F F' → Same F' H' → F' a = none → H' a = some (.lst xs') → DpAll K F' xs' es' → (∀ b o, b ≠ a → H b = some o → H' b = some o) → (∀ b o, F' b = some o → F b = some o ∨ H b = none) → Dp K F' v d → R d es' → Q v H'
def onDc (o : Option Sl) (k : Addr → List D → Prop) : Prop := match o with
  | some (.dc a ds) => k a ds
  | _ => False
theorem onDc_of {o : Option Sl} {k : Addr → List D → Prop} (h : onDc o k) : ∃ a ds, o = some (.dc a ds) ∧ k a ds := by
  match o, h with
  | some (.dc a ds), h => exact ⟨a, ds, rfl, h⟩
def wFunO (f : PO') (i : Nat) (w : WA) : WE := fun E Q => onDc E[i]? fun a _ => w E fun xs E1 => onO (frz xs) fun ds => onDc E1[i]? fun a' es => a' = a ∧ f es ds fun d es' => Q (.d d) (E1.set i (.dc a es'))
theorem snd_funO {n i : Nat} {f : PO'} {t : TA} {w : WA} (ht : SndA K t w) (hn : ∀ es ds R, f es ds R → ds.length + 1 = n) : Snd K (tCall (spO K n f) [] E0 (tCons (tVar i) t)) (wFunO f i w) := by
  intro σ F H E Qd Q I q k
  obtain ⟨a, ds0, e0, q⟩ := onDc_of q
  obtain ⟨o, ho, _, eo, _, hH0, _⟩ := I.slot e0
  subst eo
  refine ⟨.ref a, ho, ?_⟩
  refine ht σ F H E _ _ I q fun vs F1 H1 E1 xs I1 X1 r1 q1 => ?_
  obtain ⟨ds, e1, q2⟩ := onO_of q1
  obtain ⟨a', es, e2, rfl, q3⟩ := onDc_of q2
  have hd := frz_dpa r1 e1
  obtain ⟨o', ho', ys, eo', hF, hH, hys⟩ := I1.slot e2
  rw [List.append_nil]
  refine ⟨by rw [List.length_cons, dpa_len hd]; exact hn _ _ _ q3, a', vs, F1, ys, es, ds, _, rfl, I1.sub, hF, hH, hys, hd, q3, fun v F2 H2 d xs' es' f1 f2 f3 f4 f5 f6 f7 r q4 => ?_⟩
  obtain ⟨I2, X2⟩ := own_upd (s' := .dc a' es') I1 e2 rfl rfl ho f1 f2 f6 f7 ⟨xs', rfl, f3, f4, f5⟩ ⟨_, f4⟩
  exact k v F2 H2 _ (.d d) I2 (X1.trans X2) r q4
theorem pu_funO {n k : Nat} {f : PO'} {g : Addr} {fd : FuncData} {ps : List Str} {w : WA} {y : Str} {py : Pos} (i : Nat) (Fo : FnOk X.prog X.w X.K X.mg X.base CX0 k g fd ps (spO X.K n f)) (hr : Room k X.A) (hm : X.mg x = some (.ref g)) (hk : PySem.W.keepIn X.K (.ref g) = true) (hb : Binds X.K fd ps [])
    (ha : PUA X es w) (hn : ∀ es ds R, f es ds R → ds.length + 1 = n) (hN : X.N[i]? = some y := by rfl) (hv : Vis X.env.scope y := by first | exact Or.inl rfl | exact Or.inr (Or.inl rfl) | exact Or.inr (Or.inr rfl)) (hd : (y == ("__debug__" : Str)) = false := by decide)
    (hcd : (y == ("__classdict__" : Str)) = false := by decide) (hg : Gl X x := by rfl) (hdb : (x == ("__debug__" : Str)) = false := by decide) (he : starEach (.Name y py :: es) X.env = (false, eval (.Name y py) X.env) :: starEach es X.env := by rfl) (hpl : (backTo pos (starEach es X.env)).any (·.1) = false := by rfl) :
    PU X (.Call (.Name x p) (.Name y py :: es) [] pos) (wFunO f i w) := by
  obtain ⟨t, pt, st⟩ := ha.ex
  exact ⟨_, pe_call Fo hr hg hm hk hb .nil pass0 (pa_cons (pe_var hN hv hd hcd) pt he) hdb he hpl, snd_funO st hn⟩
end

/-! ### a def's promise by its body -/
section
variable {P : Program} {w : World} {K : PySem.W.Frag} {mg : Str → Option Value} {base : Heap}
/-- the env at a def's start -/
def startE (n : Nat) (ds : List D) : Env' := ds.map .fz ++ List.replicate (n - ds.length) .no
theorem start_env {F H : Hp} {vs : List V} {ds : List D} (N : List Str) (s : Same F H) (h : DpAll K F vs ds) : EnvD K F H (L2.start N vs) (startE N.length ds) := by
  have hl := dpa_len h
  have noown : ∀ i, ¬ OwnAt (startE N.length ds) i := fun i ⟨s, e, o⟩ => by
    unfold startE at e
    rw [List.getElem?_append] at e
    split at e
    · rw [List.getElem?_map] at e
      cases q : ds[i]? with
      | none => rw [q] at e; cases e
      | some d => rw [q] at e; cases Option.some.inj e; cases o
    · rw [List.getElem?_replicate] at e
      split at e
      · cases Option.some.inj e; cases o
      · cases e
  refine ⟨s, ?_, fun i sl o e1 e2 => ?_, fun i j a hij o1 _ _ _ => absurd o1 (noown i)⟩
  · unfold L2.start startE
    rw [List.length_append, List.length_append, List.length_map, List.length_map, List.length_replicate, List.length_replicate, hl]
  · unfold startE at e1
    unfold L2.start at e2
    rw [List.getElem?_append, List.length_map] at e1 e2
    by_cases hi : i < ds.length
    · rw [if_pos hi, List.getElem?_map] at e1
      rw [hl, if_pos hi, List.getElem?_map] at e2
      cases q : ds[i]? with
      | none => rw [q] at e1; cases e1
      | some d =>
        obtain ⟨v, e3, r⟩ := dpa_get h q
        rw [q] at e1
        rw [e3] at e2
        cases Option.some.inj e1
        cases Option.some.inj e2
        exact ⟨v, rfl, r⟩
    · rw [if_neg hi, List.getElem?_replicate] at e1
      split at e1
      · cases Option.some.inj e1; exact True.intro
      · cases e1
theorem noMine {σ : L2.St} {n : Nat} {ds : List D} {b : Addr} : ¬ Mine σ (startE n ds) b := fun ⟨i, ⟨s, e, o⟩, _⟩ => by
  unfold startE at e
  rw [List.getElem?_append] at e
  split at e
  · rw [List.getElem?_map] at e
    cases q : ds[i]? with
    | none => rw [q] at e; cases e
    | some d => rw [q] at e; cases Option.some.inj e; cases o
  · rw [List.getElem?_replicate] at e
    split at e
    · cases Option.some.inj e; cases o
    · cases e
/-- the ends of a def that returns data -/
def endD (R : D → Prop) : EndsD := { nx := fun _ => R .none, rt := fun d _ => R d }
theorem fn_d {x qual : Str} {params : Arguments} {body : List Stmt} {scope : Scope} {kws : List (Str × V)} {f : Addr} {fd : FuncData} {N ps : List Str} {k n : Nat} {p : PD} (Fd : FunD K x qual params body scope [] kws f fd) (S : FnScope N ps scope) (hn : ps.length = n)
    (hb : ∀ (cdv : Value) (A : Around) (outer : List Env) (s : Shared) (H : Hp) (E : XK), Room k (A.deeper (envOfC qual scope s.heap.objs.size f cdv)) → ∃ w', PUSs (cxOf CX0 P w K mg base N qual scope f cdv A outer s H E).nox body w' ∧ ∀ ds R, ds.length = n → p ds R → w' (endD R) (startE N.length ds)) :
    FnOk P w K mg base CX0 (k + 1) f fd ps (spD K n p) := by
  refine Fd.ok S (fun vs H Q E h => h.1.trans hn.symm) fun cdv A outer s H vs Q E hr hsp => ?_
  obtain ⟨hl, F, ds, R, sub, hd, hp, hq⟩ := hsp
  obtain ⟨w', pw, hw⟩ := hb cdv A outer s H E hr
  obtain ⟨t, pt, st⟩ := pw.ex
  refine ⟨t, pt.nox, ?_⟩
  refine st _ F H _ (endD R) _ (start_env N sub hd) (hw ds R (by rw [← dpa_len hd]; exact hl) hp) ⟨fun F' H' σ' E' I' X' q => ?_, fun _ _ _ _ _ _ q => q.elim, fun _ _ _ _ _ _ q => q.elim, fun v H' d E' r q => ?_⟩
  · exact hq .non F' H' .none X'.fz I'.sub (fun b o e => X'.keep b o e noMine) X'.new .non q
  · obtain ⟨F', h1, h2, h3, h4, h5, h6, h7⟩ := r.ex
    refine hq v F' H' d h2 h1 (fun b o e => h4 b o e noMine) (fun b o e => ?_) h6 q
    rcases h3 b o e with z | z | z
    · exact .inl z
    · exact .inr z
    · exact absurd z noMine
/-- .. that takes the dice first -/
def startO (n : Nat) (a : Addr) (es ds : List D) : Env' := .dc a es :: (ds.map .fz ++ List.replicate (n - (ds.length + 1)) .no)
def endO (a : Addr) (R : D → List D → Prop) : EndsD := { nx := fun E => ∃ es, E[0]? = some (.dc a es) ∧ R .none es, rt := fun d E => ∃ es, E[0]? = some (.dc a es) ∧ R d es }
theorem startO_get {n : Nat} {a : Addr} {es ds : List D} {i : Nat} {s : Sl} (h : (startO n a es ds)[i]? = some s) (o : s.own = true) : i = 0 ∧ s = .dc a es := by
  cases i with
  | zero => exact ⟨rfl, (Option.some.inj h).symm⟩
  | succ i =>
    exfalso
    have e : (ds.map Sl.fz ++ List.replicate (n - (ds.length + 1)) .no)[i]? = some s := h
    rw [List.getElem?_append] at e
    split at e
    · rw [List.getElem?_map] at e
      cases q : ds[i]? with
      | none => rw [q] at e; cases e
      | some d => rw [q] at e; cases Option.some.inj e; cases o
    · rw [List.getElem?_replicate] at e
      split at e
      · cases Option.some.inj e; cases o
      · cases e
theorem startO_env {F H : Hp} {a : Addr} {us xs : List V} {es ds : List D} (N : List Str) (s : Same F H) (hF : F a = none) (hH : H a = some (.lst xs)) (hx : DpAll K F xs es) (h : DpAll K F us ds) : EnvD K F H (L2.start N (.ref a :: us)) (startO N.length a es ds) := by
  have hl := dpa_len h
  refine ⟨s, ?_, fun i sl o e1 e2 => ?_, fun i j b hij ⟨s1, g1, o1⟩ ⟨s2, g2, o2⟩ _ _ => hij ((startO_get g1 o1).1.trans (startO_get g2 o2).1.symm)⟩
  · unfold L2.start startO
    simp only [List.length_cons, List.length_append, List.length_map, List.length_replicate, hl]
    omega
  · cases i with
    | zero =>
      cases Option.some.inj (show some (Sl.dc a es) = some sl from e1)
      have e2 : some (some (V.ref a)) = some o := e2
      cases e2
      exact ⟨xs, rfl, hF, hH, hx⟩
    | succ i =>
      have e1 : (ds.map Sl.fz ++ List.replicate (N.length - (ds.length + 1)) .no)[i]? = some sl := e1
      have e2 : (us.map some ++ List.replicate (N.length - (us.length + 1)) none)[i]? = some o := by
        unfold L2.start at e2
        simpa using e2
      rw [List.getElem?_append, List.length_map] at e1 e2
      by_cases hi : i < ds.length
      · rw [if_pos hi, List.getElem?_map] at e1
        rw [hl, if_pos hi, List.getElem?_map] at e2
        cases q : ds[i]? with
        | none => rw [q] at e1; cases e1
        | some d =>
          obtain ⟨v, e3, r⟩ := dpa_get h q
          rw [q] at e1
          rw [e3] at e2
          cases Option.some.inj e1
          cases Option.some.inj e2
          exact ⟨v, rfl, r⟩
      · rw [if_neg hi, List.getElem?_replicate] at e1
        split at e1
        · cases Option.some.inj e1; exact True.intro
        · cases e1
theorem mineO {N : List Str} {a : Addr} {us : List V} {es ds : List D} {b : Addr} (m : Mine (L2.start N (.ref a :: us)) (startO N.length a es ds) b) : b = a := by
  obtain ⟨i, ⟨s, e, o⟩, es'⟩ := m
  obtain ⟨rfl, _⟩ := startO_get e o
  have e2 : some (some (V.ref a)) = some (some (.ref b)) := es'
  cases e2
  rfl
theorem fn_o {x qual : Str} {params : Arguments} {body : List Stmt} {scope : Scope} {kws : List (Str × V)} {f : Addr} {fd : FuncData} {N ps : List Str} {k n : Nat} {p : PO'} (Fd : FunD K x qual params body scope [] kws f fd) (S : FnScope N ps scope) (hn : ps.length = n + 1)
    (hb : ∀ (cdv : Value) (A : Around) (outer : List Env) (s : Shared) (H : Hp) (E : XK), Room k (A.deeper (envOfC qual scope s.heap.objs.size f cdv)) → ∃ w', PUSs (cxOf CX0 P w K mg base N qual scope f cdv A outer s H E).nox body w' ∧ ∀ a es ds R, ds.length = n → p es ds R → w' (endO a R) (startO N.length a es ds)) :
    FnOk P w K mg base CX0 (k + 1) f fd ps (spO K (n + 1) p) := by
  refine Fd.ok S (fun vs H Q E h => h.1.trans hn.symm) fun cdv A outer s H vs Q E hr hsp => ?_
  obtain ⟨hl, a, us, F, xs, es, ds, R, rfl, sub, hF, hH, hx, hd, hp, hq⟩ := hsp
  obtain ⟨w', pw, hw⟩ := hb cdv A outer s H E hr
  obtain ⟨t, pt, st⟩ := pw.ex
  refine ⟨t, pt.nox, ?_⟩
  have hl2 : ds.length = n := by
    rw [← dpa_len hd]
    rw [List.length_cons] at hl
    omega
  have old : ∀ {H' : Hp}, (∀ b o, H b = some o → ¬ Mine (L2.start N (.ref a :: us)) (startO N.length a es ds) b → H' b = some o) → ∀ b o, b ≠ a → H b = some o → H' b = some o := fun h b o hb e => h b o e fun m => hb (mineO m)
  refine st _ F H _ (endO a R) _ (startO_env N sub hF hH hx hd) (hw a es ds R hl2 hp) ⟨fun F' H' σ' E' I' X' q => ?_, fun _ _ _ _ _ _ q => q.elim, fun _ _ _ _ _ _ q => q.elim, fun v H' d E' r q => ?_⟩
  · obtain ⟨es', e', q⟩ := q
    obtain ⟨g1, ys, g2, g3⟩ := I'.dcs 0 a es' e'
    exact hq .non F' H' .none ys es' X'.fz I'.sub g1 g2 g3 (old X'.keep) X'.new .non q
  · obtain ⟨F', h1, h2, h3, h4, h5, h6, h7⟩ := r.ex
    obtain ⟨es', e', q⟩ := q
    obtain ⟨g1, ys, g2, g3⟩ := h7.1 0 a es' e'
    refine hq v F' H' d ys es' h2 h1 g1 g2 g3 (old h4) (fun b o e => ?_) h6 q
    rcases h3 b o e with z | z | z
    · exact .inl z
    · exact .inr z
    · rw [mineO z] at e
      rw [g1] at e
      cases e
end
end AF

set_option Elab.async false
set_option linter.all false
set_option maxRecDepth 100000
set_option maxHeartbeats 2000000
namespace AF
open PySem PySem.Spec PyProof.Rows L2
theorem bb_isinstance : bootBuiltins "isinstance" = some (.builtin "isinstance") := by decide +kernel
theorem bb_len : bootBuiltins "len" = some (.builtin "len") := by decide +kernel
theorem bb_all : bootBuiltins "all" = some (.builtin "all") := by decide +kernel
theorem bb_any : bootBuiltins "any" = some (.builtin "any") := by decide +kernel
theorem bb_max : bootBuiltins "max" = some (.builtin "max") := by decide +kernel
theorem bb_min : bootBuiltins "min" = some (.builtin "min") := by decide +kernel
theorem bb_abs : bootBuiltins "abs" = some (.builtin "abs") := by decide +kernel
theorem bb_sorted : bootBuiltins "sorted" = some (.builtin "sorted") := by decide +kernel
theorem bb_int : bootBuiltins "int" = some (.type "int") := by decide +kernel
theorem bb_bool : bootBuiltins "bool" = some (.type "bool") := by decide +kernel
theorem bb_str : bootBuiltins "str" = some (.type "str") := by decide +kernel
theorem bb_tuple : bootBuiltins "tuple" = some (.type "tuple") := by decide +kernel
theorem bb_list : bootBuiltins "list" = some (.type "list") := by decide +kernel
theorem bb_dict : bootBuiltins "dict" = some (.type "dict") := by decide +kernel

/-! ### a def that is there -/
structure Has (P : Program) (w : World) (K : PySem.W.Frag) (mg : Str → Option Value) (base : Heap) (x : Str) (k : Nat) (ps : List Str) (sp : Sp) : Prop where
  ex : ∃ f fd, mg x = some (.ref f) ∧ PySem.W.keepIn K (.ref f) = true ∧ Binds K fd ps [] ∧ FnOk P w K mg base CX0 k f fd ps sp
section
variable {X : Cx} {K : PySem.W.Frag} {a b e : Expr} {es : List Expr} {pos p : Pos} {x : Str}
theorem pu_funH {n k : Nat} {f : PD} {ps : List Str} {w : WA} (h : Has X.prog X.w X.K X.mg X.base x k ps (spD X.K n f)) (hr : Room k X.A) (ha : PUA X (e :: es) w) (hn : ∀ ds R, f ds R → ds.length = n := by exact fun _ _ h => h.1) (hg : Gl X x := by rfl) (hdb : (x == ("__debug__" : Str)) = false := by decide) (he : starEach (e :: es) X.env = (false, eval e X.env) :: starEach es X.env := by rfl) (hpl : (backTo pos (starEach es X.env)).any (·.1) = false := by rfl) :
    PU X (.Call (.Name x p) (e :: es) [] pos) (wFun f w) := by
  obtain ⟨f, fd, hm, hk, hb, Fo⟩ := h.ex
  exact pu_fun Fo hr hm hk hb ha hn hg hdb he hpl
theorem puv_funTH {n k : Nat} {f : PT'} {ps : List Str} {w : WA} (h : Has X.prog X.w X.K X.mg X.base x k ps (spT X.K n f)) (hr : Room k X.A) (ha : PUA X (e :: es) w) (hn : ∀ ds R, f ds R → ds.length = n := by exact fun _ _ h => h.1) (hg : Gl X x := by rfl) (hdb : (x == ("__debug__" : Str)) = false := by decide) (he : starEach (e :: es) X.env = (false, eval e X.env) :: starEach es X.env := by rfl) (hpl : (backTo pos (starEach es X.env)).any (·.1) = false := by rfl) :
    PUV X (.Call (.Name x p) (e :: es) [] pos) (wFunT f w) := by
  obtain ⟨f, fd, hm, hk, hb, Fo⟩ := h.ex
  exact puv_funT Fo hr hm hk hb ha hn hg hdb he hpl
theorem pu_funOH {n k : Nat} {f : PO'} {ps : List Str} {w : WA} {y : Str} {py : Pos} (i : Nat) (h : Has X.prog X.w X.K X.mg X.base x k ps (spO X.K n f)) (hr : Room k X.A) (ha : PUA X es w) (hn : ∀ es ds R, f es ds R → ds.length + 1 = n := by exact fun _ _ _ h => congrArg (· + 1) h.1) (hN : X.N[i]? = some y := by rfl) (hv : Vis X.env.scope y := by first | exact Or.inl rfl | exact Or.inr (Or.inl rfl) | exact Or.inr (Or.inr rfl)) (hd : (y == ("__debug__" : Str)) = false := by decide)
    (hcd : (y == ("__classdict__" : Str)) = false := by decide) (hg : Gl X x := by rfl) (hdb : (x == ("__debug__" : Str)) = false := by decide) (he : starEach (.Name y py :: es) X.env = (false, eval (.Name y py) X.env) :: starEach es X.env := by rfl) (hpl : (backTo pos (starEach es X.env)).any (·.1) = false := by rfl) :
    PU X (.Call (.Name x p) (.Name y py :: es) [] pos) (wFunO f i w) := by
  obtain ⟨f, fd, hm, hk, hb, Fo⟩ := h.ex
  exact pu_funO i Fo hr hm hk hb ha hn hN hv hd hcd hg hdb he hpl

/-! ### list(x) as an own list -/
def wOlOf (w : WA) : WV := fun E Q => w E fun xs E1 => onO (ress E1 xs) fun ds => fList ds fun d => match d with
  | .list l => Q (.ol l) E1
  | _ => False
theorem puv_list {w : WA} (ha : PUA X (e :: es) w) (hm : X.mg "list" = none) (hg : Gl X "list" := by rfl) (he : starEach (e :: es) X.env = (false, eval e X.env) :: starEach es X.env := by rfl) (hpl : (backTo pos (starEach es X.env)).any (·.1) = false := by rfl) :
    PUV X (.Call (.Name "list" p) (e :: es) [] pos) (wOlOf w) := by
  obtain ⟨t, pt, st⟩ := ha.ex
  refine ⟨_, pe_callTy call_list_of hg hm bb_list pt (by decide) (by decide) he hpl, fun σ F H E Qd Q I q k => ?_⟩
  refine st σ F H E _ _ I q fun vs F1 H1 E1 xs I1 X1 r1 q1 => ?_
  obtain ⟨ds, e1, q2⟩ := onO_of q1
  have hr := ress_rd I1 r1 e1
  have fin : ∀ {ys : List V} {l : List D}, DpAll X.K F1 ys l → Qd (.ol l) E1 → ∀ q, H1 q = none → Q (.ref q) (upd H1 q (.lst ys)) := fun {ys l} hd q3 q hq =>
    k _ F1 _ E1 (.ol l) (I1.push hq) (X1.trans (Ext.push hq)) ⟨⟨q, ys, rfl, I1.sub.free hq, upd_same, hd⟩, fun _ => ⟨q, rfl, back_none X1.live hq, by rw [upd_same]; exact fun z => by cases z⟩⟩ q3
  match ds, hr, q2 with
  | [.list l], hr, q2 =>
    obtain ⟨v, rfl, g1⟩ := hr.one
    obtain ⟨p, ys, rfl, hs, hd⟩ := g1.list I1.sub
    exact ⟨p, ys, rfl, .inl hs, fin hd q2⟩
  | [.tuple l], hr, q2 =>
    obtain ⟨v, rfl, g1⟩ := hr.one
    obtain ⟨p, ys, rfl, hs, hd⟩ := g1.tup I1.sub
    exact ⟨p, ys, rfl, .inr (sqT_of (I1.sub _ _ hs)), fin hd q2⟩
def wNewK : WV := fun E Q => Q (.od []) E

/-! ### dice[j] = e -/
theorem dpa_set {F : Hp} {v : V} {d : D} (r : Dp K F v d) : ∀ {xs : List V} {ds : List D} (j : Nat), DpAll K F xs ds → DpAll K F (xs.set j v) (ds.set j d)
  | _, _, _, .nil => .nil
  | _, _, 0, .cons _ t => .cons r t
  | _, _, j + 1, .cons h t => .cons h (dpa_set r j t)
def wDiceSet (i j : Nat) (w : WE) : WS := fun Dd E => w E fun x E1 => onD x fun d => onDc E1[i]? fun a ds => j < ds.length ∧ Dd.nx (E1.set i (.dc a (ds.set j d)))
theorem pus_diceset {w : WE} {y : Str} {py pk p2 : Pos} {j m : Nat} (i : Nat) (h : PU X a w) (hN : X.N[i]? = some y := by rfl) (hv : Vis X.env.scope y := by first | exact Or.inl rfl | exact Or.inr (Or.inl rfl) | exact Or.inr (Or.inr rfl)) (hd : (y == ("__debug__" : Str)) = false := by decide)
    (hcd : (y == ("__classdict__" : Str)) = false := by decide) (hs : swapsWithSole [.Subscript (.Name y py) (.Constant (.int (j : Nat)) m pk) p2] a pos.line X.env = pure false := by rfl) (hw : swappedStores [.Subscript (.Name y py) (.Constant (.int (j : Nat)) m pk) p2] a X.env = pure none := by rfl)
    (h1 : (assignEach [.Subscript (.Name y py) (.Constant (.int (j : Nat)) m pk) p2] X.env).map (·.2) = [assign (.Subscript (.Name y py) (.Constant (.int (j : Nat)) m pk) p2) X.env] := by rfl) : PUS X (.Assign [.Subscript (.Name y py) (.Constant (.int (j : Nat)) m pk) p2] a pos) (wDiceSet i j w) := by
  obtain ⟨t, p, s⟩ := h.ex
  refine ⟨_, ps_asg p (pg_sub (pe_var hN hv hd hcd) pe_int set_list) hs hw h1, fun σ F H E Dd Dv I q k => ?_⟩
  refine s σ F H E _ _ I q fun v F1 H1 E1 u I1 X1 r1 q1 => ?_
  obtain ⟨d, rfl, q2⟩ := onD_of q1
  obtain ⟨c, ds, e1, hj, q3⟩ := onDc_of q2
  obtain ⟨o, ho, xs, eo, hF, hH, hxs⟩ := I1.slot e1
  subst eo
  have hl := dpa_len hxs
  obtain ⟨I2, X2⟩ := own_poke (s' := .dc c (ds.set j d)) (o := .lst (xs.set j v)) I1 e1 rfl rfl ho hF ⟨_, rfl, hF, upd_same, dpa_set r1 j hxs⟩
  refine ⟨.ref c, ho, c, xs, (j : Nat), j, rfl, rfl, hH, ?_, k.nx F1 _ σ _ I2 (X1.trans X2).s q3⟩
  unfold ixN
  rw [if_pos (by omega), if_pos (by rw [hl]; omega)]
  rfl

/-! ### a block that returns a new list, unfrozen -/
def SndL (K : PySem.W.Frag) (t : TS) (w : (List D → Env' → Prop) → Env' → Prop) : Prop := ∀ (σ : L2.St) (F H : Hp) (E : Env') (Qd : List D → Env' → Prop) (Dv : Ends), EnvD K F H σ E → w Qd E →
  (∀ p xs ds F' H' σ' E', EnvD K F' H' σ' E' → ExtS F H F' H' σ E σ' E' → H p = none → F' p = none → H' p = some (.lst xs) → DpAll K F' xs ds → Qd ds E' → Dv.rt (.ref p) H') → t Dv σ H
structure PUL (X : Cx) (ss : List Stmt) (w : (List D → Env' → Prop) → Env' → Prop) : Prop where
  ex : ∃ t, PSs X ss t ∧ SndL X.K t w
def wlRet (w : WA) : (List D → Env' → Prop) → Env' → Prop := fun Q E => w E fun xs E1 => onO (frz xs) fun ds => ds.length ≤ 1000 ∧ Q ds E1
def wlSeq (w : WS) (u : (List D → Env' → Prop) → Env' → Prop) : (List D → Env' → Prop) → Env' → Prop := fun Q E => w { nx := u Q, rt := fun _ _ => False } E
theorem pul_ret {w : WA} {p2 : Pos} (h : PUA X es w) : PUL X [.Return (some (.List es pos)) p2] (wlRet w) := by
  obtain ⟨t, p, s⟩ := h.ex
  refine ⟨_, pss_one (ps_ret (pe_lst p)), fun σ F H E Qd Dv I q k => ?_⟩
  refine s σ F H E _ _ I q fun vs F1 H1 E1 xs I1 X1 r1 q1 => ?_
  obtain ⟨ds, e1, hl, q2⟩ := onO_of q1
  have hd := frz_dpa r1 e1
  exact ⟨line1000 (by rw [dpa_len hd]; exact hl), fun q hq => k q vs ds F1 _ σ E1 (I1.push hq) (X1.trans (Ext.push hq)).s (back_none X1.live hq) (I1.sub.free hq) upd_same hd q2⟩
theorem pul_seq {w : WS} {u : (List D → Env' → Prop) → Env' → Prop} {st : Stmt} {rest : List Stmt} (h1 : PUS X st w) (h2 : PUL X rest u) : PUL X (st :: rest) (wlSeq w u) := by
  obtain ⟨t1, p1, s1⟩ := h1.ex
  obtain ⟨t2, p2, s2⟩ := h2.ex
  refine ⟨_, pss_cons p1 p2, fun σ F H E Qd Dv I q k => ?_⟩
  refine s1 σ F H E _ _ I q ⟨fun F' H' σ' E' I' x n => ?_, fun _ _ _ _ _ _ z => z.elim, fun _ _ _ _ _ _ z => z.elim, fun _ _ _ _ _ z => z.elim⟩
  exact s2 σ' F' H' E' Qd Dv I' n fun p xs ds F2 H2 σ2 E2 I2 X2 hp => k p xs ds F2 H2 σ2 E2 I2 (x.trans X2) (back_none x.live hp)
abbrev PL' := List D → (List D → Prop) → Prop
def spL (K : PySem.W.Frag) (n : Nat) (f : PL') : Sp := fun vs H Q _ => vs.length = n ∧ ∃ F ds R, Same F H ∧ DpAll K F vs ds ∧ f ds R ∧
  ∀ p F' H' xs es, H p = none → Same F F' → Same F' H' → Same H H' → (∀ b o, F' b = some o → F b = some o ∨ H b = none) → F' p = none → H' p = some (.lst xs) → DpAll K F' xs es → R es → Q (.ref p) H'
def wFunL (f : PL') (w : WA) : WV := fun E Q => w E fun xs E1 => onO (frz xs) fun ds => f ds fun es => ∀ p, Q (.dc p es) E1
theorem puv_funLH {n k : Nat} {f : PL'} {ps : List Str} {w : WA} (h : Has X.prog X.w X.K X.mg X.base x k ps (spL X.K n f)) (hr : Room k X.A) (ha : PUA X (e :: es) w) (hn : ∀ ds R, f ds R → ds.length = n := by exact fun _ _ h => h.1) (hg : Gl X x := by rfl) (hdb : (x == ("__debug__" : Str)) = false := by decide) (he : starEach (e :: es) X.env = (false, eval e X.env) :: starEach es X.env := by rfl) (hpl : (backTo pos (starEach es X.env)).any (·.1) = false := by rfl) :
    PUV X (.Call (.Name x p) (e :: es) [] pos) (wFunL f w) := by
  obtain ⟨g, fd, hm, hk, hb, Fo⟩ := h.ex
  obtain ⟨t, pt, st⟩ := ha.ex
  refine ⟨_, pe_call Fo hr hg hm hk hb .nil pass0 pt hdb he hpl, fun σ F H E Qd Q I q k => ?_⟩
  refine st σ F H E _ _ I q fun vs F1 H1 E1 xs I1 X1 r1 q1 => ?_
  obtain ⟨ds, e1, q2⟩ := onO_of q1
  have hd := frz_dpa r1 e1
  rw [List.append_nil]
  exact ⟨by rw [dpa_len hd]; exact hn _ _ q2, F1, ds, _, I1.sub, hd, q2, fun p F2 H2 xs es hp f1 f2 f3 f4 hF hH hxs q3 =>
    k _ F2 H2 E1 (.dc p es) (I1.grow f1 f3 f2 f4) (X1.trans (Ext.grow f1 f3 f4)) ⟨⟨xs, rfl, hF, hH, hxs⟩, fun _ => ⟨p, rfl, back_none X1.live hp, by rw [hH]; exact fun z => by cases z⟩⟩ (q3 p)⟩
end
section
variable {P : Program} {w : World} {K : PySem.W.Frag} {mg : Str → Option Value} {base : Heap}
abbrev FnP (K : PySem.W.Frag) (x : Str) (st : Stmt) (f : Addr) (fd : FuncData) : Prop := FunD K x x (defArgs st) (defBody st) (defScope st) [] [] f fd
abbrev DefAt (K : PySem.W.Frag) (mg : Str → Option Value) (x : Str) (st : Stmt) : Prop := ∃ f fd, mg x = some (.ref f) ∧ FnP K x st f fd
theorem has_d {x : Str} {st : Stmt} {N ps : List Str} {k n : Nat} {p : PD} (D : DefAt K mg x st) (S : FnScope N ps (defScope st)) (hn : ps.length = n) (hbi : ∀ {f fd}, FnP K x st f fd → Binds K fd ps [])
    (hb : ∀ (f : Addr) (fd : FuncData) (F : FnP K x st f fd) (cdv : Value) (A : Around) (outer : List Env) (s : Shared) (H : Hp) (E : XK), Room k (A.deeper (envOfC x (defScope st) s.heap.objs.size f cdv)) → ∃ w', PUSs (cxOf CX0 P w K mg base N x (defScope st) f cdv A outer s H E).nox (defBody st) w' ∧ ∀ ds R, ds.length = n → p ds R → w' (endD R) (startE N.length ds)) :
    Has P w K mg base x (k + 1) ps (spD K n p) := by
  obtain ⟨f, fd, hm, F⟩ := D
  exact ⟨f, fd, hm, F.kp, hbi F, fn_d F S hn fun cdv A outer s H E hr => hb f fd F cdv A outer s H E hr⟩
theorem has_o {x : Str} {st : Stmt} {N ps : List Str} {k n : Nat} {p : PO'} (D : DefAt K mg x st) (S : FnScope N ps (defScope st)) (hn : ps.length = n + 1) (hbi : ∀ {f fd}, FnP K x st f fd → Binds K fd ps [])
    (hb : ∀ (f : Addr) (fd : FuncData) (F : FnP K x st f fd) (cdv : Value) (A : Around) (outer : List Env) (s : Shared) (H : Hp) (E : XK), Room k (A.deeper (envOfC x (defScope st) s.heap.objs.size f cdv)) → ∃ w', PUSs (cxOf CX0 P w K mg base N x (defScope st) f cdv A outer s H E).nox (defBody st) w' ∧ ∀ a es ds R, ds.length = n → p es ds R → w' (endO a R) (startO N.length a es ds)) :
    Has P w K mg base x (k + 1) ps (spO K (n + 1) p) := by
  obtain ⟨f, fd, hm, F⟩ := D
  exact ⟨f, fd, hm, F.kp, hbi F, fn_o F S hn fun cdv A outer s H E hr => hb f fd F cdv A outer s H E hr⟩
theorem has_l {x : Str} {st : Stmt} {N ps : List Str} {k n : Nat} {p : PL'} (D : DefAt K mg x st) (S : FnScope N ps (defScope st)) (hn : ps.length = n) (hbi : ∀ {f fd}, FnP K x st f fd → Binds K fd ps [])
    (hb : ∀ (f : Addr) (fd : FuncData) (F : FnP K x st f fd) (cdv : Value) (A : Around) (outer : List Env) (s : Shared) (H : Hp) (E : XK), Room k (A.deeper (envOfC x (defScope st) s.heap.objs.size f cdv)) → ∃ w', PUL (cxOf CX0 P w K mg base N x (defScope st) f cdv A outer s H E).nox (defBody st) w' ∧ ∀ ds R, ds.length = n → p ds R → w' (fun es _ => R es) (startE N.length ds)) :
    Has P w K mg base x (k + 1) ps (spL K n p) := by
  obtain ⟨f, fd, hm, F⟩ := D
  refine ⟨f, fd, hm, F.kp, hbi F, FunD.ok F S (fun vs H Q E h => h.1.trans hn.symm) fun cdv A outer s H vs Q E hr hsp => ?_⟩
  obtain ⟨hl, Fh, ds, R, sub, hd, hp, hq⟩ := hsp
  obtain ⟨w', pw, hw⟩ := hb f fd F cdv A outer s H E hr
  obtain ⟨t, pt, st⟩ := pw.ex
  refine ⟨t, pt.nox, ?_⟩
  exact st _ Fh H _ _ _ (start_env N sub hd) (hw ds R (by rw [← dpa_len hd]; exact hl) hp) fun p xs es F' H' σ' E' I' X' h1 h2 h3 h4 h5 =>
    hq p F' H' xs es h1 X'.fz I'.sub (fun b o e => X'.keep b o e noMine) X'.new h2 h3 h4 h5
end
end AF

set_option Elab.async false
set_option linter.all false
set_option maxRecDepth 100000
set_option maxHeartbeats 2000000
namespace AF
open PySem PySem.Spec PyProof.Rows L2

/-! ### pairs of an int and a text, by their order -/
abbrev IS := Int × Str
def pD (p : IS) : D := .tuple [.int p.1, .str p.2]
def ltIS (p q : IS) : Bool := if p.1 = q.1 then (if p.2 = q.2 then false else decide (p.2.cps.toList < q.2.cps.toList)) else decide (p.1 < q.1)
def geIS (p q : IS) : Bool := if p.1 = q.1 then (if p.2 = q.2 then true else !decide (p.2.cps.toList < q.2.cps.toList)) else decide (q.1 ≤ p.1)
theorem lt_str_r {A : Around} {s : Shared} (x : Str) (t : Tok) (y : Str) (u : Tok) : Ob.RcOp .Lt A s (.str x t) (.str y u) (decide (x.cps.toList < y.cps.toList)) := fun _ _ _ _ h => PyProof.Rows.lt_str h
theorem ge_str_r {A : Around} {s : Shared} (x : Str) (t : Tok) (y : Str) (u : Tok) : Ob.RcOp .GtE A s (.str x t) (.str y u) (!decide (x.cps.toList < y.cps.toList)) := fun _ _ _ _ h => PySem.P.ge_str h
def rPIS (g : IS → IS → Bool) : R2 := fun x y H Q => ∃ (a b : Addr) (p q : IS), x = .ref a ∧ y = .ref b ∧ H a = some (.tup [.int p.1, .str p.2]) ∧ H b = some (.tup [.int q.1, .str q.2]) ∧ Q (.bl (g p q)) H
theorem dec_beq {α : Type} [DecidableEq α] [BEq α] [LawfulBEq α] (a b : α) : (a == b) = decide (a = b) := by
  by_cases h : a = b
  · subst h; simp
  · rw [decide_eq_false h]; exact beq_eq_false_iff_ne.mpr h
section
variable {X : Cx} {K : PySem.W.Frag} {pos p2 p3 p : Pos} {e : Expr} {es : List Expr}
theorem tup_is {pins : List (Addr × Obj)} {σ : L2.St} {H : Hp} {s : Shared} {a : Addr} {p : IS} (I : Inv X pins σ H s) (h : H a = some (.tup [.int p.1, .str p.2])) : ∃ t u, s.heap.IsTuple a #[.int p.1 t, .str p.2 u] := by
  obtain ⟨its, rv, ht, _⟩ := I.tuple (sqT_of h)
  obtain ⟨u1, u2, rfl, ⟨t, rfl⟩, ⟨u, rfl⟩⟩ := vals2 rv
  exact ⟨t, u, ht⟩
theorem op_ltP (hu : X.A.units < cLine) : OpR X (compareOp .Lt) (rPIS ltIS) := by
  intro pins s σ H x y v u Q I rx ry h
  obtain ⟨a, b, p, q, rfl, rfl, ha, hb, k⟩ := h
  cases rx
  cases ry
  obtain ⟨t1, u1, h1⟩ := tup_is I ha
  obtain ⟨t2, u2, h2⟩ := tup_is I hb
  have R := Ob.RcOp.tuples_lt (A := X.A) (s := s) (e := fun j => if j = 0 then p.1 == q.1 else p.2 == q.2) (r := fun j => if j = 0 then decide (p.1 < q.1) else decide (p.2.cps.toList < q.2.cps.toList)) h1 h2 hu (fun j g1 g2 => by
    match j, g1, g2 with
    | 0, _, _ => exact SeqAt.EqAt.int_int _ _ _ _
    | 1, _, _ => exact SeqAt.EqAt.str_str _ _ _ _) (fun j g1 g2 _ => by
    match j, g1, g2 with
    | 0, _, _ => exact Ob.RcOp.lt_int _ _ _ _
    | 1, _, _ => exact lt_str_r _ _ _ _)
  have e : Ob.lexAt (fun j => if j = 0 then p.1 == q.1 else p.2 == q.2) (fun j => if j = 0 then decide (p.1 < q.1) else decide (p.2.cps.toList < q.2.cps.toList)) (decide (2 < 2)) 0 2 = ltIS p q := by
    unfold ltIS
    simp only [Ob.lexAt, dec_beq, decide_eq_true_eq]
    simp
  refine R X.prog X.w X.xe (EP X pins σ Q) ⟨.bl _, H, I, rfl, ?_⟩
  exact e ▸ k
theorem op_geP (hu : X.A.units < cLine) : OpR X (compareOp .GtE) (rPIS geIS) := by
  intro pins s σ H x y v u Q I rx ry h
  obtain ⟨a, b, p, q, rfl, rfl, ha, hb, k⟩ := h
  cases rx
  cases ry
  obtain ⟨t1, u1, h1⟩ := tup_is I ha
  obtain ⟨t2, u2, h2⟩ := tup_is I hb
  have R := Ob.RcOp.tuples_ge (A := X.A) (s := s) (e := fun j => if j = 0 then p.1 == q.1 else p.2 == q.2) (r := fun j => if j = 0 then decide (q.1 ≤ p.1) else !decide (p.2.cps.toList < q.2.cps.toList)) h1 h2 hu (fun j g1 g2 => by
    match j, g1, g2 with
    | 0, _, _ => exact SeqAt.EqAt.int_int _ _ _ _
    | 1, _, _ => exact SeqAt.EqAt.str_str _ _ _ _) (fun j g1 g2 _ => by
    match j, g1, g2 with
    | 0, _, _ => exact Ob.RcOp.ge_int _ _ _ _
    | 1, _, _ => exact ge_str_r _ _ _ _)
  have e : Ob.lexAt (fun j => if j = 0 then p.1 == q.1 else p.2 == q.2) (fun j => if j = 0 then decide (q.1 ≤ p.1) else !decide (p.2.cps.toList < q.2.cps.toList)) (decide (2 ≥ 2)) 0 2 = geIS p q := by
    unfold geIS
    simp only [Ob.lexAt, dec_beq, decide_eq_true_eq]
    simp
  refine R X.prog X.w X.xe (EP X pins σ Q) ⟨.bl _, H, I, rfl, ?_⟩
  exact e ▸ k
def fPIS (g : IS → IS → Bool) : F2 := fun a b k => ∃ p q, a = pD p ∧ b = pD q ∧ k (.bool (g p q))
theorem dp_pD {F : Hp} {v : V} {p : IS} (h : Dp K F v (pD p)) : ∃ a, v = .ref a ∧ F a = some (.tup [.int p.1, .str p.2]) := by
  unfold pD at h
  cases h with
  | tup hs ha =>
    cases ha with
    | cons h1 ha =>
      cases ha with
      | cons h2 ha =>
        cases ha
        cases h1
        cases h2
        exact ⟨_, rfl, hs⟩
theorem sr_PIS {g : IS → IS → Bool} : SndR K (rPIS g) (fPIS g) := sndR_pure fun x y F H a b Qd Q s h1 h2 h k => by
  obtain ⟨p, q, rfl, rfl, h⟩ := h
  obtain ⟨c, rfl, e1⟩ := dp_pD h1
  obtain ⟨d, rfl, e2⟩ := dp_pD h2
  exact ⟨c, d, p, q, rfl, rfl, e1, e2, k _ _ (fun _ => .bl _) h⟩

/-! ### x in a tuple of texts -/
def fInSeq : F2 := fun a b k => match a with
  | .str x => ∃ ys : List Str, b = .tuple (ys.map .str) ∧ k (.bool (ys.any fun y => y == x))
  | _ => False
theorem dpa_strs {H : Hp} : ∀ {ys : List Str} {vs : List V}, DpAll K H vs (ys.map .str) → vs = ys.map V.str
  | [], _, h => by cases h; rfl
  | b :: bs, _, h => by
    cases h with
    | cons h1 h2 => cases h1; rw [dpa_strs h2]; rfl
theorem sr_inseq : SndR K (rIn K false) fInSeq := sndR_pure fun x y F H a b Qd Q s h1 h2 h k => by
  cases h1 <;> first | exact False.elim h | skip
  rename_i z
  obtain ⟨ys, rfl, h⟩ := h
  cases h2 with
  | tup hs ha =>
    have e := dpa_strs ha
    subst e
    refine ⟨_, _, rfl, .inr (sqT_of hs), rfl, ?_, ?_⟩
    · rw [List.all_map]
      exact List.all_eq_true.mpr fun _ _ => rfl
    · refine k _ (.bool (ys.any fun y => y == z)) (fun _ => ?_) h
      have e : inV (.str z) (ys.map V.str) = ys.any fun y => y == z := by
        unfold inV
        rw [List.any_map]
        rfl
      show Dp K _ (.bl (inV (.str z) (ys.map V.str))) _
      rw [e]
      exact .bl _

/-! ### sorted -/
theorem swo_is : SrtO.Swo ltIS := by
  refine ⟨fun x y h => ?_, fun x y z h1 h2 => ?_⟩
  · unfold ltIS at h ⊢
    by_cases e : x.1 = y.1
    · rw [if_pos e] at h
      rw [if_pos e.symm]
      by_cases e2 : x.2 = y.2
      · rw [if_pos e2] at h; cases h
      · rw [if_neg e2] at h
        rw [if_neg (fun z => e2 z.symm)]
        have h := of_decide_eq_true h
        exact decide_eq_false (List.lt_asymm h)
    · rw [if_neg e] at h
      rw [if_neg (fun z => e z.symm)]
      have h := of_decide_eq_true h
      exact decide_eq_false (by omega)
  · unfold ltIS at h1 h2 ⊢
    by_cases e1 : y.1 = x.1
    · rw [if_pos e1] at h1
      by_cases e2 : z.1 = y.1
      · rw [if_pos e2] at h2
        rw [if_pos (e2.trans e1)]
        by_cases f1 : y.2 = x.2
        · rw [← f1]; exact h2
        · rw [if_neg f1] at h1
          by_cases f2 : z.2 = y.2
          · rw [f2, if_neg f1]; exact h1
          · rw [if_neg f2] at h2
            have h1 := of_decide_eq_false h1
            have h2 := of_decide_eq_false h2
            split
            · rfl
            · exact decide_eq_false (List.not_lt.mpr (List.le_trans (List.not_lt.mp h1) (List.not_lt.mp h2)))
      · rw [if_neg e2] at h2
        rw [if_neg (fun q => e2 (q.trans e1.symm))]
        have h2 := of_decide_eq_false h2
        exact decide_eq_false (by omega)
    · rw [if_neg e1] at h1
      have h1 := of_decide_eq_false h1
      by_cases e2 : z.1 = y.1
      · rw [if_neg (fun q => e1 (e2.symm.trans q))]
        exact decide_eq_false (by omega)
      · rw [if_neg e2] at h2
        have h2 := of_decide_eq_false h2
        rw [if_neg (by omega)]
        exact decide_eq_false (by omega)
end
end AF
namespace SrtO
open PySem PyProof.Rows Srt AF
section
variable {prog : Program} {w : World} {A : Around} {s : Shared}
def IsIS (h : Heap) (v : Value) (p : IS) : Prop := ∃ a o t u n, v = .ref a ∧ h.get? a = some o ∧ o.cls = .type "tuple" ∧ o.data = .seq #[.int p.1 t, .str p.2 u] n
theorem IsIS.keeps {h h' : Heap} {v : Value} {p : IS} (q : IsIS h v p) (k : ∀ b o, h.get? b = some o → o.cls = .type "tuple" → h'.get? b = some o) : IsIS h' v p := by
  obtain ⟨a, o, t, u, n, e, ho, hc, hd⟩ := q
  exact ⟨a, o, t, u, n, e, k _ _ ho hc, hc, hd⟩
theorem swo_isk (k : Value → IS) : Swo fun v u => ltIS (k v) (k u) := ⟨fun x y => swo_is.asym _ _, fun x y z => swo_is.tr _ _ _⟩
theorem is_cmp {vs : List Value} {k : Value → IS} (hp : ∀ v ∈ vs, IsIS s.heap v (k v)) : Cmp prog w A s (tuples' true) (fun p => p.1 ∈ vs) (lt2 fun v u => ltIS (k v) (k u)) := by
  intro p q hm hm'
  have h1 : ∃ a o t u n, p.1 = .ref a ∧ s.heap.get? a = some o ∧ o.cls = .type "tuple" ∧ o.data = .seq #[.int (k p.1).1 t, .str (k p.1).2 u] n := hp _ hm
  have h2 : ∃ a o t u n, q.1 = .ref a ∧ s.heap.get? a = some o ∧ o.cls = .type "tuple" ∧ o.data = .seq #[.int (k q.1).1 t, .str (k q.1).2 u] n := hp _ hm'
  show wpAny (model prog w) A (keyLt' (tuples' true) p.1 q.1) (fun r s' => s' = s ∧ r = ltIS (k p.1) (k q.1)) (fun _ _ => False) s
  unfold ltIS
  generalize (k p.1).1 = x at h1 ⊢
  generalize (k p.1).2 = y at h1 ⊢
  generalize (k q.1).1 = x' at h2 ⊢
  generalize (k q.1).2 = y' at h2 ⊢
  obtain ⟨a, o, t, u, n, e, ho, hc, hd⟩ := h1
  obtain ⟨a', o', t', u', n', e', ho', hc', hd'⟩ := h2
  rw [e, e']
  refine PySem.W.kat_lt ho hd ho' hd' ?_
  show PySem.W.KatLex prog w A true (decide (2 < 2)) _ [(.int x t, .int x' t'), (.str y u, .str y' u')] 0 s
  refine PySem.W.kat_cons (SeqAt.EqAt.int_int x t x' t' prog w _ _ ?_)
  refine PySem.W.kat_go (fun e1 => ?_) (fun e1 => ?_)
  · have ex : x = x' := by simpa using e1
    refine PySem.W.kat_yes (PySem.W.kat_cons (SeqAt.EqAt.str_str y u y' u' prog w _ _ ?_))
    refine PySem.W.kat_go (fun e2 => ?_) (fun e2 => ?_)
    · have ey : y = y' := by simpa using e2
      have e3 : (if x = x' then (if y = y' then false else decide (y.cps.toList < y'.cps.toList)) else decide (x < x')) = false := by
        rw [if_pos ex, if_pos ey]
      exact PySem.W.kat_yes (PySem.W.kat_nil ⟨rfl, e3.symm⟩)
    · have ey : ¬ y = y' := by simpa using e2
      have e3 : (if x = x' then (if y = y' then false else decide (y.cps.toList < y'.cps.toList)) else decide (x < x')) = decide (y.cps.toList < y'.cps.toList) := by rw [if_pos ex, if_neg ey]
      refine PySem.W.kat_no (PySem.W.kat_one _ _ (PyProof.Rows.lt_str ?_))
      exact (show s = s ∧ decide (y.cps.toList < y'.cps.toList) = (if x = x' then (if y = y' then false else decide (y.cps.toList < y'.cps.toList)) else decide (x < x')) from ⟨rfl, e3.symm⟩)
  · have ex : ¬ x = x' := by simpa using e1
    have e3 : (if x = x' then (if y = y' then false else decide (y.cps.toList < y'.cps.toList)) else decide (x < x')) = decide (x < x') := if_neg ex
    exact PySem.W.kat_no (oneLt_int ⟨rfl, e3.symm⟩)
theorem firsts_is {h : Heap} : ∀ {vs : List Value}, (∀ v ∈ vs, ∃ p, IsIS h v p) → ∃ fs : List Value, PySem.W.KatTups h vs fs ∧ fs.length = vs.length ∧ ∀ f ∈ fs, ∃ x t, f = Value.int x t
  | [], _ => ⟨[], PySem.W.KatTups.nil, rfl, fun _ hm => by simp at hm⟩
  | v :: vs, hp => by
    obtain ⟨fs, h1, h2, h3⟩ := firsts_is (vs := vs) fun v' hm => hp v' (List.mem_cons_of_mem _ hm)
    obtain ⟨⟨x, y⟩, a, o, t, u, n, e, ho, hc, hd⟩ := hp v (List.mem_cons_self ..)
    subst e
    refine ⟨.int x t :: fs, PySem.W.KatTups.cons ho hc hd rfl h1, by rw [List.length_cons, List.length_cons, h2], fun f hm => ?_⟩
    rcases List.mem_cons.mp hm with rfl | hm
    · exact ⟨x, t, rfl⟩
    · exact h3 f hm
theorem is_sortable {a : Addr} {vs : List Value} {k : Value → IS} (h0 : 0 < vs.length) (hp : ∀ v ∈ vs, IsIS s.heap v (k v)) (ha : ∀ o, s.heap.get? a = some o → o.cls ≠ .type "tuple") : SortableO prog w A s a vs fun v u => ltIS (k v) (k u) := by
  intro h' keep
  have hp' : ∀ v ∈ vs, IsIS h' v (k v) := fun v hm => (hp v hm).keeps fun b o e c => keep b o (fun z => by subst z; exact ha o e c) e
  obtain ⟨fs, h1, h2, h3⟩ := firsts_is fun v hm => ⟨_, hp' v hm⟩
  refine ⟨tuples' true, fun Q E hq => ?_, is_cmp hp'⟩
  refine PySem.W.kat_kind (T := .type "int") h1 (by omega) (fun f hm => ?_) (by rfl) ?_
  · obtain ⟨x, t, rfl⟩ := h3 f hm
    exact PySem.W.Looks.now
  · have e : (Value.type "int" != Value.type "tuple") = true := by first | decide +kernel | rfl | decide
    rw [e]
    exact hq
/-- sorted(x), x collected to vs -/
theorem sorted_gen {E : Value → Shared → Prop} {x : Value} {vs : List Value} {ltv : Value → Value → Bool} {Q : Value → Shared → Prop} (O : Swo ltv) (hz : vs.length ≤ sizeLine)
    (hcol : ∀ (Q' : List Value → Shared → Prop), (∀ h' tk, (∀ b o, s.heap.get? b = some o → h'.get? b = some o) → Q' vs { s with heap := h', toks := tk }) → wpAny (model prog w) A.in1 (collect x) Q' E s)
    (hS : 2 ≤ vs.length → ∀ (h₁ : Heap) (tk : Nat) (a : Addr), h₁.get? a = some (seqObj "list" vs.toArray 0) → (∀ b o, s.heap.get? b = some o → b ≠ a ∧ h₁.get? b = some o) → SortableO prog w A.in1.in1 { s with heap := h₁, toks := tk } a vs ltv)
    (h : ∀ (h1 h' : Heap) (tk : Nat) (d : Addr) (out : List Value), Srtd ltv out → Stb ltv out vs → (∀ b o, s.heap.get? b = some o → h1.get? b = some o) → (∀ b o, h1.get? b = some o → h'.get? b = some o) → h1.objs.size ≤ d → (∃ n, h'.get? d = some (seqObj "list" out.toArray n)) → Q (.ref d) { s with heap := h', toks := tk }) :
    wpAny (model prog w) A (call (.builtin "sorted") [x]) Q E s := by
  refine Calls.call_function_entry kind_sorted plain_sorted entry_sorted (args_sorted1 _) ?_
  unfold Builtin.«sorted»
  refine wpAny_bind (m := checkCount "sorted" 1 1 _) (wpAny_pure ?_)
  refine wpAny_bind (hcol _ fun h1 tk k1 => ?_)
  refine wpAny_bind (wpAny_newList ?_ hz)
  have hoL : (h1.push (seqObj "list" vs.toArray 0)).get? h1.objs.size = some (seqObj "list" vs.toArray 0) := Heap.get?_push_size _ rfl
  have keep : ∀ b o, s.heap.get? b = some o → b ≠ h1.objs.size ∧ (h1.push (seqObj "list" vs.toArray 0)).get? b = some o := fun b o q =>
    ⟨Nat.ne_of_lt (Heap.lt_size (k1 _ _ q)), Heap.get?_push_of_some _ (k1 _ _ q)⟩
  show wpAny _ _ _ _ _ { s with heap := h1.push (seqObj "list" vs.toArray 0), toks := tk }
  refine wpAny_bind (wpAny_holding (wpAny_call_entry slot_list_sort ⟨_, hoL, rfl⟩ entry_list_sort (list_sort_ord (s := { s with heap := h1.push (seqObj "list" vs.toArray 0), toks := tk }) O hoL hz (fun h2 => hS h2 _ _ _ hoL keep) fun out hs hb => ⟨_, rfl, ?_⟩) (args_list_sort _)))
  refine wpAny_pure ⟨_, rfl, h h1 _ tk _ out hs hb k1 (fun b o e => ?_) (Nat.le_refl _) ?_⟩
  · have hb' : b < h1.objs.size := Heap.lt_size e
    rw [PyProof.Rows.sortedHeap_old (Nat.ne_of_lt hb') (by rw [size_push']; exact Nat.lt_succ_of_lt hb')]
    exact Heap.get?_push_of_some _ e
  · obtain ⟨e', he'⟩ := PyProof.Rows.sortedHeap_at (vs := vs) (out := out.toArray) hoL
    exact ⟨e', he'⟩
end
end SrtO
namespace AF
open PySem PySem.Spec PyProof.Rows L2
section
variable {X : Cx} {K : PySem.W.Frag} {pos p2 p3 p : Pos} {e : Expr} {es : List Expr}
/-- what is sorted: a list or a tuple of such pairs -/
def rSortIS (K : PySem.W.Frag) : List V → Hp → VK → Prop := fun vs H Q => ∃ (a : Addr) (xs : List V) (k : V → IS), vs = [V.ref a] ∧ (SqL K H a xs ∨ SqT K H a xs) ∧ (∀ x ∈ xs, ∃ t, x = V.ref t ∧ H t = some (.tup [.int (k x).1, .str (k x).2])) ∧
  ∀ ys p, ys.Perm xs → ys.Pairwise (fun x y => ltIS (k y) (k x) = false) → H p = none → Q (.ref p) (upd H p (.lst ys))
theorem cr_sortIS : CallR X (.builtin "sorted") (rSortIS X.K) := by
  intro pins s σ H vs us Q I r h
  obtain ⟨a, xs, k, rfl, hs, hx, q⟩ := h
  obtain ⟨u, rfl, ru⟩ := vals1 r
  obtain rfl : u = Value.ref a := ru
  have main : ∀ (its : List Value), Vals xs its → xs.length ≤ sizeLine → (∀ (Q' : List Value → Shared → Prop), (∀ h' tk, (∀ b o, s.heap.get? b = some o → h'.get? b = some o) → Q' its { s with heap := h', toks := tk }) → wpAny (model X.prog X.w) X.A.in1 (collect (.ref a)) Q' X.xe s) →
      wpAny (model X.prog X.w) X.A (call (.builtin "sorted") [.ref a]) (EP X pins σ Q) X.xe s := fun its rv hz hcol => by
    obtain ⟨e1, e2⟩ := refs_back rv fun x m => by
      obtain ⟨t, e, _⟩ := hx x m
      exact ⟨t, e⟩
    have his : ∀ v ∈ its, SrtO.IsIS s.heap v (k (backV v)) := fun v hv => by
      obtain ⟨t, rfl⟩ := e2 v hv
      have hm : V.ref t ∈ xs := by rw [e1]; exact List.mem_map.mpr ⟨_, hv, rfl⟩
      obtain ⟨t', e, ht⟩ := hx _ hm
      cases e
      obtain ⟨_, its2, r2, o, ho, hc, n, hd⟩ := I.hok _ _ ht
      obtain ⟨u1, u2, rfl, ri, rj⟩ := vals2 r2
      obtain ⟨t1, rfl⟩ := ri
      obtain ⟨t2, rfl⟩ := rj
      exact ⟨t, o, t1, t2, n, rfl, ho, hc, hd⟩
    refine SrtO.sorted_gen (ltv := fun v u => ltIS (k (backV v)) (k (backV u))) (SrtO.swo_isk _) (by rw [← rv.length]; exact hz) hcol (fun h2 h₁ tk a ha kk => ?_) fun g1 h' tk d out h1 h2 kp0 kp hd hn => ?_
    · refine SrtO.is_sortable (s := { s with heap := h₁, toks := tk }) (by omega) (fun v hm => (his v hm).keeps fun b o e _ => (kk b o e).2) fun o e => ?_
      have e' : some o = some (seqObj "list" its.toArray 0) := e.symm.trans ha
      cases e'
      intro c
      exact absurd (Value.type.inj c) (by decide)
    · have h3 : ∀ u ∈ out, ∃ a, u = Value.ref a := fun u hu => e2 u (h2.perm.mem_iff.mp hu)
      obtain ⟨n, hn⟩ := hn
      have I1 : Inv X pins σ H { s with heap := g1 } := I.kept (t' := s.toks) kp0
      have hp : (out.map backV).Perm xs := by
        rw [e1]
        exact h2.perm.map backV
      refine ⟨.ref d, upd H d (.lst (out.map backV)), I1.laid (t' := tk) kp hd ⟨?_, out, n, vals_back h3, hn⟩, rfl, q _ d hp (List.pairwise_map.mpr h1) (I1.hok.fresh hd)⟩
      rw [hp.length_eq]
      exact hz
  rcases hs with hs | hs
  · obtain ⟨its, rv, pl, hz⟩ := I.list hs
    obtain ⟨o, ho, hc, n, hd⟩ := pl.isList
    exact main its rv hz fun Q' k => wpAny_collect_seq (hsz := by rw [List.size_toArray, ← rv.length]; exact hz) a (.inl rfl) ho hc hd fun h' kp => by
      have := k h' s.toks kp
      simpa using this
  · obtain ⟨its, rv, pl, hz⟩ := I.tuple hs
    obtain ⟨o, ho, hc, n, hd⟩ := pl
    exact main its rv hz fun Q' k => wpAny_collect_seq (hsz := by rw [List.size_toArray, ← rv.length]; exact hz) a (.inr rfl) ho hc hd fun h' kp => by
      have := k h' s.toks kp
      simpa using this
/-- sorted, over data -/
def SortedIS (qs : List IS) : Prop := qs.Pairwise fun p q => ltIS q p = false
def fSorted : FC := fun ds k => ∃ ps : List IS, (ds = [.list (ps.map pD)] ∨ ds = [.tuple (ps.map pD)]) ∧ ∀ qs : List IS, qs.Perm ps → SortedIS qs → k (.list (qs.map pD))
/-- the pair at a value -/
def isAt (F : Hp) (v : V) : IS := match v with
  | .ref a => match F a with
    | some (.tup [.int i, .str x]) => (i, x)
    | _ => (0, ⟨#[]⟩)
  | _ => (0, ⟨#[]⟩)
theorem isAt_of {F : Hp} {a : Addr} {p : IS} (h : F a = some (.tup [.int p.1, .str p.2])) : isAt F (.ref a) = p := by
  show (match F a with
    | some (.tup [.int i, .str x]) => (i, x)
    | _ => ((0, ⟨#[]⟩) : IS)) = p
  rw [h]
theorem dpa_is {F : Hp} : ∀ {ps : List IS} {xs : List V}, DpAll K F xs (ps.map pD) → (∀ x ∈ xs, ∃ t, x = V.ref t ∧ F t = some (.tup [.int (isAt F x).1, .str (isAt F x).2])) ∧ xs.map (isAt F) = ps
  | [], _, h => by cases h; exact ⟨fun _ hm => by simp at hm, rfl⟩
  | p :: ps, _, h => by
    cases h with
    | cons h1 h2 =>
      obtain ⟨a, rfl, ha⟩ := dp_pD h1
      obtain ⟨g1, g2⟩ := dpa_is h2
      refine ⟨fun x hm => ?_, ?_⟩
      · rcases List.mem_cons.mp hm with rfl | hm
        · exact ⟨a, rfl, by rw [isAt_of ha]; exact ha⟩
        · exact g1 x hm
      · rw [List.map_cons, g2, isAt_of ha]
theorem is_dpa {F : Hp} : ∀ {xs : List V}, (∀ x ∈ xs, ∃ t, x = V.ref t ∧ F t = some (.tup [.int (isAt F x).1, .str (isAt F x).2])) → DpAll K F xs ((xs.map (isAt F)).map pD)
  | [], _ => .nil
  | x :: xs, h => by
    obtain ⟨t, e, ht⟩ := h x List.mem_cons_self
    refine .cons ?_ (is_dpa fun y hy => h y (List.mem_cons_of_mem _ hy))
    have : Dp K F (.ref t) (pD (isAt F x)) := .tup ht (.cons (.int _) (.cons (.str _) .nil))
    rw [← e] at this
    exact this
theorem sc_sorted : SndC K (rSortIS K) fSorted := by
  intro vs F H σ E ds Qd Q I h q k
  obtain ⟨ps, hds, q⟩ := q
  have fin : ∀ {a : Addr} {xs : List V}, (SqL K H a xs ∨ SqT K H a xs) → DpAll K F xs (ps.map pD) → rSortIS K [.ref a] H Q := fun {a xs} hs ha => by
    obtain ⟨g1, g2⟩ := dpa_is ha
    refine ⟨a, xs, isAt F, rfl, hs, fun x hm => ?_, fun ys p hp hsrt hn => ?_⟩
    · obtain ⟨t, e, ht⟩ := g1 x hm
      exact ⟨t, e, I.sub _ _ ht⟩
    · have hy : ∀ y ∈ ys, ∃ t, y = V.ref t ∧ F t = some (.tup [.int (isAt F y).1, .str (isAt F y).2]) := fun y hm => g1 y (hp.mem_iff.mp hm)
      have hd := is_dpa (K := K) hy
      refine fin_lst I hd (fun v F' H' I' X' r' => k v F' H' _ I' X' r' (q _ ?_ ?_)) p hn
      · rw [← g2]; exact hp.map _
      · exact List.pairwise_map.mpr hsrt
  rcases hds with rfl | rfl
  · obtain ⟨v, rfl, g1⟩ := h.one
    obtain ⟨p, xs, rfl, hs, ha⟩ := g1.list I.sub
    exact fin (.inl hs) ha
  · obtain ⟨v, rfl, g1⟩ := h.one
    obtain ⟨p, xs, rfl, hs, ha⟩ := g1.tup I.sub
    exact fin (.inr (sqT_of (I.sub _ _ hs))) ha
end
end AF

set_option Elab.async false
set_option linter.all false
set_option maxRecDepth 100000
set_option maxHeartbeats 4000000
namespace PySem
open Sem (wp)
theorem meets_enumerate_new1 {v : Value} {o : Obj} {H : Heap → Prop} (B : Begins v o H) :
    Meets (Builtin.«enumerate.__new__» ⟨[.type "enumerate", v], []⟩) (fun _ R s => H s.heap ∧
      R (.ok (.ret (.ref (s.heap.push o).objs.size))) { s with heap := (s.heap.push o).push { cls := .type "enumerate", data := .fields #[.none, .bool false, .ref s.heap.objs.size, rawInt 0, .none, .none] } }) :=
  .of_wp fun prog w A R s h => by
    obtain ⟨hp, g, d, tk, os⟩ := s; obtain ⟨h1, h⟩ := h
    have hsub := sub_enumerate
    have q1 : ∀ {A' : Around} {E : Value → Shared → Prop} {Q : Value → Shared → Prop}, Q (.ref hp.objs.size) ⟨hp.push o, g, d, tk, os⟩ → wpAny (model prog w) A' (pyIter v) Q E ⟨hp, g, d, tk, os⟩ :=
      fun q => B.iter prog w _ _ ⟨hp, g, d, tk, os⟩ _ h1 q
    wp_walk using q1
    refine wpAny_stack_any fun st => wpAny_pure ?_
    split
    · rename_i c _ _ _ _ _
      cases (c == Value.type "enumerate")
      · wp_walk using q1
        exact ⟨_, rfl, h⟩
      · wp_walk using q1
        exact ⟨_, rfl, h⟩
    · wp_walk using q1
      exact ⟨_, rfl, h⟩
theorem enum_begins1 {prog : Program} {w : World} {A : Around} {E : Value → Shared → Prop} {s : Shared} {v : Value} {o : Obj} {H : Heap → Prop} {Q : Value → Shared → Prop} (B : Begins v o H) (h1 : H s.heap)
    (h : ∀ h', IsEnum h' (s.heap.objs.size + 1) s.heap.objs.size 0 .none → h'.get? s.heap.objs.size = some o → h'.objs.size = s.heap.objs.size + 2 →
      (∀ b o, s.heap.get? b = some o → h'.get? b = some o) → Q (.ref (s.heap.objs.size + 1)) { s with heap := h' }) :
    wpAny (model prog w) A (call (.type "enumerate") [v]) Q E s := by
  refine callType_new F.called_enumerate (by decide) (F.typeCall_enumerate_1 _) (F.newCall_enumerate_1 _) (fun obj => F.args_object_init_2 obj _) F.entry_enumerate_new
    (meets_enumerate_new1 B) ⟨h1, ?_⟩
  have hz : (s.heap.push o).objs.size = s.heap.objs.size + 1 := Heap.size_push ..
  show _ ∧ _
  rw [hz]
  have he : IsEnum ((s.heap.push o).push { cls := .type "enumerate", data := .fields #[.none, .bool false, .ref s.heap.objs.size, rawInt 0, .none, .none] }) (s.heap.objs.size + 1) s.heap.objs.size 0 .none := by
    have := Heap.get?_push_size (s.heap.push o) (o := { cls := .type "enumerate", data := .fields #[.none, .bool false, .ref s.heap.objs.size, rawInt 0, .none, .none] }) rfl
    rw [hz] at this; exact this
  refine ⟨⟨_, he, rfl⟩, h _ he (Heap.get?_push_of_some _ (Heap.get?_push_size _ B.free)) (by rw [Heap.size_push, hz]) fun b o x => Heap.get?_push_of_some _ (Heap.get?_push_of_some _ x)⟩
end PySem
namespace AF
open PySem PySem.Spec PyProof.Rows L2
/-! ### enumerate(a tuple) -/
theorem enum_endT {prog : Program} {w : World} {A : Around} {E : Value → Shared → Prop} {s : Shared} {e it t : Addr} {i : Nat} {c : Int} {items : Array Value} {old : Value} {Q : Option Value → Shared → Prop} (hh : A.handled = none)
    (he : IsEnum s.heap e it c old) (hit : s.heap.IsTupleIter it t i) (ht : s.heap.IsTuple t items) (hx : items[i]? = none)
    (hQ : ∀ h', Heap.ExtBut it s.heap h' → Q none { s with heap := h' }) : wpAny (model prog w) A (pyNext (.ref e)) Q E s := by
  have hT : s.TypeIs (.ref e) "enumerate" := ⟨_, he, rfl⟩
  unfold pyNext
  refine wpAny_bind (wpAny_attempt (wpAny_callSpecial?_slot (name := Str.ofString "__next__") hT PySem.F.slot_enumerate_next
    (wpAny_call_entry PySem.F.slot_enumerate_next hT PySem.F.entry_enumerate_next ?_ (PySem.F.args_enumerate_next_1 _))))
  show wpAny _ _ (field (.ref e) 2 >>= _) _ _ _
  refine wpAny_bind (wpAny_field he rfl (x := .ref it) rfl ?_)
  refine wpAny_bind (wpAny_nextOf_tuple_end hh hit ht hx fun h' x he' hx' => ?_)
  obtain ⟨o, ho, hc⟩ := hx'
  refine wpAny_bind (wpAny_isInstance (T := "StopIteration") (b := true) ⟨o, ho, hc⟩ isSubtype_stop ?_)
  exact wpAny_pure (hQ _ he')
def IteT (K : PySem.W.Frag) (a : Addr) : It :=
  ⟨fun i H => ∃ (xs : List V) (x : V), SqT K H a xs ∧ xs[i]? = some x, fun i H v H' => ∃ T x, v = .ref T ∧ H T = none ∧ H' = upd H T (.tup [.int (i : Nat), x]) ∧ ∀ xs, SqT K H a xs → xs[i]? = some x, fun i H => ∃ xs : List V, SqT K H a xs ∧ xs.length ≤ i⟩
theorem turn_enumT {P : Program} {w : World} {K : PySem.W.Frag} {elts : List Expr} {kk : Nat} {tpos : Pos} (a e it : Addr) (hai : a ≠ it) (hae : e ≠ a) :
    Turn P w K (.Tuple elts kk tpos) (IteT K a) [e, it] e (fun i h => (∃ old, IsEnum h e it ((i : Nat) : Int) old) ∧ h.IsTupleIter it a i ∧ e ≠ it) where
  mem := by simp
  obj := fun i h st b hb => by
    obtain ⟨⟨old, he⟩, ⟨o, ho, hc, hd⟩, _⟩ := st
    have e' : b = e ∨ b = it := by simpa using hb
    rcases e' with z | z
    · rw [z]; exact ⟨_, he, fun v q => nomatch q⟩
    · rw [z]; exact ⟨o, ho, fun v q => by rw [hd] at q; cases q⟩
  keep := fun i h h' st k => let ⟨⟨old, he⟩, hi, hne⟩ := st; ⟨⟨old, k e (by simp) _ he⟩, hi.at fun o q => k it (by simp) o q, hne⟩
  item := by
    intro X hP hw hK hc i pins s σ H E I hf st hg
    subst hP hw hK
    obtain ⟨⟨old, he⟩, hit, hne⟩ := st
    obtain ⟨xs, x, hq, hx⟩ := hg
    obtain ⟨its, rv, p, hz⟩ := I.tuple hq
    obtain ⟨u, hu, ru⟩ := rv.get hx
    have hel : e < s.heap.objs.size := Heap.lt_size he
    have hil : it < s.heap.objs.size := by obtain ⟨_, q, _⟩ := hit; exact Heap.lt_size q
    have hlt : i < its.toArray.size := by
      rw [List.size_toArray]
      exact (List.getElem?_eq_some_iff.mp hu).1
    have DD := Draws.tuple (prog := X.prog) (w := X.w) (A := X.A.in1) (I.ok.hd hc) it a hai its.toArray
    refine wpAny_pyNext_enum_itemC DD he ⟨hit, p⟩ hlt hne (fun hm => ?_) fun y h' tk hy ho hit' hT hsz hk => ?_
    · have e' : e = it ∨ e = a := by simpa using hm
      exact e'.elim hne hae
    have hy : its.toArray[i]? = some y := hy
    have ey : y = u := by
      have q : its.toArray[i]? = some u := by simpa using hu
      rw [q] at hy
      exact (Option.some.inj hy).symm
    subst ey
    refine ⟨_, rfl, wpAny_letOwnedTupleGo_enum (s := { s with heap := h', toks := tk + 1 }) ho fun h'' he' sb => ?_⟩
    have hT2 : h''.get? s.heap.objs.size = some { cls := .type "tuple", data := .seq #[.int i tk, y] } := (sb.2 _ (Nat.ne_of_gt hel)).trans hT
    have new : ObjOk X.prog X.w (upd H s.heap.objs.size (.tup [.int (i : Nat), x])) h'' s.heap.objs.size (.tup [.int (i : Nat), x]) :=
      ⟨by show 2 ≤ sizeLine; decide, [.int i tk, y], .cons ⟨_, rfl⟩ (.cons ru .nil), ⟨_, hT2, rfl, _, rfl⟩⟩
    have I1 : Inv X pins σ (upd H s.heap.objs.size (.tup [.int (i : Nat), x])) { s with heap := h'', toks := tk + 1 } :=
      I.turnedNew (ch := [e, it]) (fun b ob hb q => (sb.2 b (fun z => hb (by simp [z]))).trans (hk b ob (fun z => hb (by simp [z])) (fun z => hb (by simp [z])) q)) hf (Nat.le_refl _) new
    refine ⟨.ref s.heap.objs.size, _, I1, rfl, ⟨_, x, rfl, I.hok.fresh (Nat.le_refl _), rfl, fun ys hy => by rw [I.tuple_inj hy hq]; exact hx⟩, ⟨⟨y, ?_⟩, hit'.1.at fun o q => (sb.2 it (Ne.symm hne)).trans q, hne⟩, fun b hb => ?_⟩
    · have e1 : ((i + 1 : Nat) : Int) = (i : Int) + 1 := by omega
      rw [e1]; exact he'
    · have hb' : b < s.heap.objs.size := by
        have e' : b = e ∨ b = it := by simpa using hb
        rcases e' with z | z
        · rw [z]; exact hel
        · rw [z]; exact hil
      rw [upd_ne (Nat.ne_of_lt hb')]
      exact (hf b hb).1
  done := by
    intro X hP hw hK hc i pins s σ H E I hf st hg
    subst hP hw hK
    obtain ⟨⟨old, he⟩, hit, hne⟩ := st
    obtain ⟨xs, hq, hx⟩ := hg
    obtain ⟨its, rv, p, hz⟩ := I.tuple hq
    obtain ⟨f0, f1, f2, f3, f4, f5⟩ := hf it (by simp)
    have hl := rv.length
    refine enum_endT (I.ok.hd hc) he hit p (by rw [List.getElem?_toArray]; exact List.getElem?_eq_none (by omega)) fun h' eb => ⟨rfl, I.turned (t' := s.toks) (fun b o hb q => eb b o hb q) f0 f1 f3 f4 f5⟩
  self := fun A i s Q E st h => let ⟨⟨_, he⟩, _⟩ := st; wpAny_pyIter_enum he h
section
variable {X : Cx} {K : PySem.W.Frag} {pos p2 p3 p : Pos} {e : Expr} {es : List Expr}
def iEnumT (K : PySem.W.Frag) (ta : TA) : TI := fun σ H R => ta σ H fun vs H1 => ∃ a xs, vs = [.ref a] ∧ SqT K H1 a xs ∧ R (IteT K a) H1
theorem pi_enumT {ta : TA} {tpos : Pos} {elts : List Expr} {kk : Nat} (hg : Gl X "enumerate") (hm : X.mg "enumerate" = none) (ha : PA X [e] ta) (hs : starEach [e] X.env = [(false, eval e X.env)] := by rfl) :
    PI X (.Tuple elts kk tpos) (.Call (.Name "enumerate" p) [e] [] pos) (iEnumT X.K ta) := by
  refine ⟨fun pins s σ H R I h => ?_⟩
  refine Call_ (ld_blt I hg hm boot_enumerate (PyProof.Rows.callWith_type1 (thn (ha.run pos pins s σ H _ I h) fun us s1 ⟨vs, H1, I1, r1, q1⟩ => ?_) hs rfl))
  obtain ⟨a, xs, ex, hq, q⟩ := q1
  subst ex
  cases r1 with
  | cons r rr =>
    cases rr
    cases r
    obtain ⟨its, rv, p', hz⟩ := I1.tuple hq
    have hlt : a < s1.heap.objs.size := p'.lt
    refine enum_begins1 (begins_tuple a its.toArray) p' fun h' he hit hsz hk => wpAny_pyIter_enum he ?_
    have I2 : Inv X pins σ H1 { s1 with heap := h' } := I1.kept (t' := s1.toks) hk
    refine ⟨s1.heap.objs.size + 1, [s1.heap.objs.size + 1, s1.heap.objs.size], _, _, H1, rfl, I2, turn_enumT a (s1.heap.objs.size + 1) s1.heap.objs.size (Nat.ne_of_lt hlt) (Ne.symm (Nat.ne_of_lt (Nat.lt_succ_of_lt hlt))), ⟨⟨.none, he⟩, ⟨_, hit, rfl, rfl⟩, Nat.succ_ne_self _⟩, fun b hb => ?_, q⟩
    have e' : b = s1.heap.objs.size + 1 ∨ b = s1.heap.objs.size := by simpa using hb
    have hle : s1.heap.objs.size ≤ b := by
      rcases e' with z | z
      · rw [z]; exact Nat.le_add_right _ _
      · rw [z]; exact Nat.le_refl _
    exact I1.fpOk hle (I1.hok.fresh hle)
def enumD (xs : List D) : List D := List.zipWith (fun (i : Nat) x => .tuple [.int (i : Nat), x]) (List.range xs.length) xs
theorem enumD_get {xs : List D} {i : Nat} {d : D} (h : (enumD xs)[i]? = some d) : ∃ x, xs[i]? = some x ∧ d = .tuple [.int (i : Nat), x] := by
  unfold enumD at h
  rw [List.getElem?_zipWith] at h
  by_cases hl : i < xs.length
  · rw [List.getElem?_range hl, List.getElem?_eq_getElem hl] at h
    exact ⟨_, List.getElem?_eq_getElem hl, (Option.some.inj h).symm⟩
  · rw [List.getElem?_eq_none (l := List.range xs.length) (by rw [List.length_range]; omega)] at h
    cases h
theorem jok_enumT {F : Hp} {p : Addr} {xs : List V} {ds : List D} (h1 : SqT K F p xs) (a1 : DpAll K F xs ds) : JOk K F (IteT K p) (enumD ds) := fun i F1 H s1 s2 =>
  ⟨fun d e => by
    obtain ⟨x, e1, rfl⟩ := enumD_get e
    obtain ⟨v, g1, r1⟩ := dpa_get a1 e1
    refine ⟨⟨xs, v, sqT_same (s1.trans s2) h1, g1⟩, fun x H' yy => ?_⟩
    obtain ⟨T, x', rfl, hT, rfl, k1⟩ := yy
    have k1 := k1 xs (sqT_same (s1.trans s2) h1)
    rw [g1] at k1
    cases k1
    exact new_yld s2 hT (.int _) (dp_same s1 r1), fun hl => ⟨xs, sqT_same (s1.trans s2) h1, by
      unfold enumD at hl
      rw [List.length_zipWith, List.length_range, ← dpa_len a1] at hl
      omega⟩⟩
def wiEnumT (w : WE) : WI := fun E Q => w E fun x E1 => onD x fun d => match d with
  | .tuple ds => Q (enumD ds) E1
  | _ => False
theorem pui_enumT {w : WE} {tpos : Pos} {elts : List Expr} {kk : Nat} (ha : PU X e w) (hm : X.mg "enumerate" = none) (hg : Gl X "enumerate" := by rfl) (hs : starEach [e] X.env = [(false, eval e X.env)] := by rfl) (hst : starEach [e] X.env = (false, eval e X.env) :: starEach [] X.env := by rfl) :
    PUI X (.Tuple elts kk tpos) (.Call (.Name "enumerate" p) [e] [] pos) (wiEnumT w) := by
  obtain ⟨t, p, s⟩ := ha.ex
  refine ⟨_, pi_enumT hg hm (pa_cons p pa_nil hst) hs, fun σ F H E Qd R I q k => ?_⟩
  refine s σ F H E _ _ I q fun v F1 H1 E1 x I1 X1 r q1 => ?_
  obtain ⟨d, rfl, q2⟩ := onD_of q1
  have r : Dp X.K F1 v d := r
  cases r <;> first | exact False.elim q2 | skip
  rename_i p xs ds hs ha
  exact ⟨p, xs, rfl, sqT_of (I1.sub _ _ hs), k _ F1 H1 E1 _ I1 X1 (jok_enumT (sqT_of hs) ha) q2⟩
end
end AF

set_option Elab.async false
set_option linter.all false
set_option maxRecDepth 100000
set_option maxHeartbeats 4000000
namespace HT
open PySem PySem.Spec PyProof.Rows L2
section
variable {prog : Program} {w : World} {A : Around} {E : Value → Shared → Prop} {s : Shared}
theorem sliceApplied_rev {sl : Addr} {vl vu vs : Value} {n : Nat} {Q : Int × Int × Nat → Shared → Prop} (hs : s.heap.IsSliceOf sl vl vu vs) (pl : IsPart vl none) (pu : IsPart vu none) (ps : IsPart vs (some (-1)))
    (h : Q ((n : Int) - 1, -1, n) s) : wpAny (model prog w) A (Builtin.Slice.sliceApplied (.ref sl) (pure (n : Int))) Q E s := by
  obtain ⟨os, hos, hcs, hds⟩ := id hs
  unfold Builtin.Slice.sliceApplied Builtin.Slice.sliceFields
  refine wpAny_bind (wpAny_bind (wpAny_field hos hds (x := vl) rfl (wpAny_bind (wpAny_field hos hds (x := vu) rfl (wpAny_bind (wpAny_field hos hds (x := vs) rfl (wpAny_pure ?_)))))))
  refine wpAny_bind (slicePart_ ps ?_)
  show wpAny _ _ (if ((-1 : Int) == 0) = true then _ else _) _ _ s
  rw [if_neg (by decide)]
  refine wpAny_bind (slicePart_ pl (wpAny_bind (slicePart_ pu (wpAny_bind (wpAny_pure ?_)))))
  show wpAny _ _ (pure ((n : Int) - 1, (-1 : Int), Builtin.Slice.slicePlaces ((n : Int) - 1) (-1) (-1))) _ _ s
  have e : Builtin.Slice.slicePlaces ((n : Int) - 1) (-1) (-1) = n := by
    unfold Builtin.Slice.slicePlaces
    rw [if_neg (by decide)]
    split
    · rw [show (-(-1) : Int) = 1 by decide, Int.ediv_one]
      omega
    · omega
  rw [e]
  exact wpAny_pure h
theorem fm_congr {α β : Type} {f g : α → Option β} : ∀ {l : List α}, (∀ x ∈ l, f x = g x) → l.filterMap f = l.filterMap g
  | [], _ => rfl
  | x :: l, h => by
    rw [List.filterMap_cons, List.filterMap_cons, h x List.mem_cons_self, fm_congr fun y hy => h y (List.mem_cons_of_mem _ hy)]
theorem pick_rev (xs : Array Value) : ((List.range xs.size).filterMap fun (m : Nat) => xs[(((xs.size : Int) - 1) + (m : Int) * (-1)).toNat]?).toArray = xs.toList.reverse.toArray := by
  congr 1
  have e : (List.range xs.size).filterMap (fun (m : Nat) => xs[(((xs.size : Int) - 1) + (m : Int) * (-1)).toNat]?) = ((List.range xs.size).map (fun k => xs.size - 1 - k)).filterMap (xs[·]?) := by
    rw [List.filterMap_map]
    refine fm_congr fun m hm => ?_
    have := List.mem_range.mp hm
    have e : (((xs.size : Int) - 1) + (m : Int) * (-1)).toNat = xs.size - 1 - m := by omega
    show xs[(((xs.size : Int) - 1) + (m : Int) * (-1)).toNat]? = xs[xs.size - 1 - m]?
    rw [e]
  rw [e, PySem.W.krv_range, List.filterMap_reverse, PySem.W.krv_all]
theorem getItem_tuple_rev {t sl : Addr} {items : Array Value} {vl vu vs : Value} {Q : Value → Shared → Prop} (ht : IsTup s.heap t items) (hs : s.heap.IsSliceOf sl vl vu vs) (pl : IsPart vl none) (pu : IsPart vu none) (ps : IsPart vs (some (-1)))
    (h : Q (.ref s.heap.objs.size) { s with heap := s.heap.push { cls := .type "tuple", data := .seq items.toList.reverse.toArray } })
    (hsz : items.size ≤ sizeLine) : wpAny (model prog w) A (getItem (.ref t) (.ref sl)) Q E s := by
  have htake : sizeOk (.seq items.toList.reverse.toArray) := by
    show items.toList.reverse.toArray.size ≤ sizeLine
    rw [List.size_toArray, List.length_reverse, Array.length_toList]
    exact hsz
  obtain ⟨os, hos, hcs, hds⟩ := id hs
  have hTs : s.TypeIs (.ref sl) "slice" := ⟨os, hos, hcs⟩
  unfold getItem
  try with_reducible refine wpAny_holding ?_
  first | refine wpAny_bind (wpAny_pure ?_) | skip
  refine wpAny_bind (wpAny_sequenceKey ht.typeIs (by decide) ?_)
  refine wpAny_bind (wpAny_callSpecial?_slot (name := Str.ofString "__getitem__") ht.typeIs PyProof.Rows.slot_tuple_getitem
    (wpAny_call_entry PyProof.Rows.slot_tuple_getitem ht.typeIs entry_tuple_getitem ?_ (args_tuple_getitem _ _)))
  show wpAny _ _ (Builtin.Tuple.tupleItemsOf (.ref t) >>= _) _ _ s
  refine wpAny_bind (tupleItemsOf_ ht ?_)
  refine wpAny_bind (wpAny_typeOf hTs ?_)
  rw [if_pos (by decide)]
  refine wpAny_bind (sliceApplied_rev hs pl pu ps ?_)
  have hno : ¬ ((((items.size : Int) - 1) == 0 && (-1 : Int) == 1 && items.size == items.size) = true) := by
    intro q
    rw [Bool.and_eq_true, Bool.and_eq_true] at q
    exact absurd q.1.2 (by decide)
  show wpAny _ _ (if (((items.size : Int) - 1) == 0 && (-1 : Int) == 1 && items.size == items.size) = true then _ else _) _ _ s
  rw [if_neg hno, pick_rev]
  first
    | exact wpAny_bind (m := Builtin.Tuple.tupleExact _) (wpAny_newObj_type (wpAny_pure ⟨_, rfl, wpAny_pure h⟩) htake)
    | exact wpAny_bind (m := Builtin.Tuple.tupleExact _) (wpAny_newObj_type (wpAny_bind (wpAny_pure (wpAny_pure ⟨_, rfl, wpAny_pure h⟩))) htake)
    | exact wpAny_bind (wpAny_bind (m := Builtin.Tuple.tupleExact _) (wpAny_newObj_type (wpAny_pure (wpAny_pure ⟨_, rfl, wpAny_pure h⟩)) htake))
    | exact wpAny_bind (wpAny_bind (m := Builtin.Tuple.tupleExact _) (wpAny_newObj_type (wpAny_pure ⟨_, rfl, wpAny_pure h⟩) htake))
end
end HT
namespace AF
open PySem PySem.Spec PyProof.Rows L2
section
variable {X : Cx} {K : PySem.W.Frag} {pos p1 p2 p3 p : Pos} {e : Expr} {es : List Expr} {k : Nat}
def tRevT (K : PySem.W.Frag) (te : TE) : TE := fun σ H Q => te σ H fun x H1 => ∃ a xs, x = .ref a ∧ SqT K H1 a xs ∧ ∀ p, H1 p = none → Q (.ref p) (upd H1 p (.tup xs.reverse))
theorem pe_revT {te : TE} (he : PE X e te) : PE X (.Subscript e (.Slice none none (some (.UnaryOp .USub (.Constant (.int 1) k p1) p2)) p3) pos) (tRevT X.K te) := by
  refine ⟨fun pins s σ H Q I h => ?_⟩
  refine Subscript_ (thn (he.run pins s σ H _ I h) fun v s1 ⟨x, H1, I1, r1, q1⟩ => ?_)
  obtain ⟨a, xs, ex, hx, q⟩ := q1
  subst ex
  cases r1
  have hst : PO X (some (.UnaryOp .USub (.Constant (.int 1) k p1) p2)) (tPart (tUn (rU fun i => .int (-i)) (tC (.int 1)))) := po_some (pe_un un_neg pe_int)
  refine wpAny_Slice (thn (po_none.run pins s1 σ H1 (fun o H2 => o = none ∧ H2 = H1) I1 ⟨rfl, rfl⟩) fun vl s2 ⟨l, H2, I2, pl, el, e2⟩ => ?_)
  subst el e2
  refine thn (po_none.run pins s2 σ H2 (fun o H3 => o = none ∧ H3 = H2) I2 ⟨rfl, rfl⟩) fun vu s3 ⟨u, H3, I3, pu, eu, e3⟩ => ?_
  subst eu e3
  refine thn (hst.run pins s3 σ H3 (fun o H4 => o = some (-1) ∧ H4 = H3) I3 ⟨1, rfl, -1, rfl, rfl, rfl⟩) fun vs s4 ⟨o, H4, I4, ps, eo, e4⟩ => ?_
  subst eo e4
  have I5 : Inv X pins σ H4 { s4 with heap := s4.heap.push { cls := .type "slice", data := .fields #[vl, vu, vs] } } := I4.kept (t' := s4.toks) fun b ob q => Heap.get?_push_of_some _ q
  obtain ⟨its, r, ht, hz⟩ := I5.tuple hx
  have hlen := r.length
  show wpAny (model X.prog X.w) X.A (subscriptTail e (.Slice none none (some (.UnaryOp .USub (.Constant (.int 1) k p1) p2)) p3) (.ref a) (.ref s4.heap.objs.size)) (EP X pins σ Q) X.xe { s4 with heap := s4.heap.push { cls := .type "slice", data := .fields #[vl, vu, vs] } }
  refine tail_any (ops := [.ref a, .ref s4.heap.objs.size]) ht.typeIs (PyProof.Rows.slot_tuple_getitem.lookup) ?_ (by with_unfolding_all rfl)
  refine HT.getItem_tuple_rev ht (Heap.IsSliceOf.new _ vl vu vs) pl pu ps ?_ (by rw [List.size_toArray]; omega)
  refine ⟨.ref _, _, I5.laid (t' := s4.toks) (o := .tup xs.reverse) (fun b ob q => Heap.get?_push_of_some _ q) (Nat.le_refl _) ?_, rfl, q _ (I5.hok.fresh (Nat.le_refl _))⟩
  exact ⟨by rw [List.length_reverse]; exact hz, _, r.reverse, IsTup.new _ _⟩
def wRevT (w : WE) : WE := fun E Q => w E fun x E1 => onD x fun d => match d with
  | .tuple ds => Q (.d (.tuple ds.reverse)) E1
  | _ => False
theorem pu_revT {w : WE} (he : PU X e w) : PU X (.Subscript e (.Slice none none (some (.UnaryOp .USub (.Constant (.int 1) k p1) p2)) p3) pos) (wRevT w) := by
  obtain ⟨t, p, s⟩ := he.ex
  refine ⟨_, pe_revT p, fun σ F H E Qd Q I q kk => ?_⟩
  refine s σ F H E _ _ I q fun v F1 H1 E1 x I1 X1 r q1 => ?_
  obtain ⟨d, rfl, q2⟩ := onD_of q1
  have r : Dp X.K F1 v d := r
  cases r <;> first | exact False.elim q2 | skip
  rename_i p xs ds hs ha
  exact ⟨p, xs, rfl, sqT_of (I1.sub _ _ hs), fin_tup I1 (dpa_rev ha) fun v F2 H2 I2 X2 r2 => kk v F2 H2 E1 (.d (.tuple ds.reverse)) I2 (X1.trans X2) r2 q2⟩

/-! ### for k in {k: v, ..}: the dict is made, and stands while it is walked -/
def tFrz (te : TE) : TE := fun σ H Q => te σ H fun x H1 => ∃ d u, x = .ref d ∧ H1 d = some u ∧ Mut (some u) ∧ ∀ od, Q x (upd H1 d (.frz od u))
theorem pe_frz {te : TE} (he : PE X e te) : PE X e (tFrz te) := by
  refine ⟨fun pins s σ H Q I h => ?_⟩
  refine thn (he.run pins s σ H _ I h) fun v s1 ⟨x, H1, I1, r1, d, u, ex, hd, mu, q⟩ => ?_
  obtain ⟨od, I2⟩ := I1.lock hd mu
  exact ⟨x, _, I2, r1, q od⟩
/-- pairs of keys and values -/
abbrev WPs := Env' → (List (D × D) → Env' → Prop) → Prop
def wpsNil : WPs := fun E Q => Q [] E
def wpsCons (wk wv : WE) (w : WPs) : WPs := fun E Q => wk E fun x E1 => onD x fun k => wv E1 fun y E2 => onD y fun v => w E2 fun r E3 => Q ((k, v) :: r) E3
def SndPs (K : PySem.W.Frag) (t : L2.St → Hp → (List (V × V) → Hp → Prop) → Prop) (w : WPs) : Prop := ∀ (σ : L2.St) (F H : Hp) (E : Env') (Qd : List (D × D) → Env' → Prop) (Q : List (V × V) → Hp → Prop), EnvD K F H σ E → w E Qd →
  (∀ ps F' H' E' ds, EnvD K F' H' σ E' → Ext F H F' H' σ E E' → Paired (fun (p : V × V) (q : D × D) => Dp K F' p.1 q.1 ∧ Dp K F' p.2 q.2) ps ds → Qd ds E' → Q ps H') → t σ H Q
structure PUPs (X : Cx) (pos : Pos) (ks : List (Option Expr)) (vs : List Expr) (w : WPs) : Prop where
  ex : ∃ trs, PPs X pos ks vs trs ∧ SndPs X.K (tPairs trs) w
theorem pups_nil : PUPs X pos [] [] wpsNil := ⟨[], pps_nil, fun σ F H E Qd Q I q k => k [] F H E [] I (Ext.refl _ _ _ _) .nil q⟩
theorem pups_cons {a b : Expr} {ks : List (Option Expr)} {vs : List Expr} {wk wv : WE} {w : WPs} (hk : PU X a wk) (hv : PU X b wv) (hr : PUPs X pos ks vs w) : PUPs X pos (some a :: ks) (b :: vs) (wpsCons wk wv w) := by
  obtain ⟨tk, pk, sk⟩ := hk.ex
  obtain ⟨tv, pv, sv⟩ := hv.ex
  obtain ⟨trs, pr, sr⟩ := hr.ex
  refine ⟨(tk, tv) :: trs, pps_cons pk pv pr, fun σ F H E Qd Q I q k => ?_⟩
  refine sk σ F H E _ _ I q fun x F1 H1 E1 u I1 X1 r1 q1 => ?_
  obtain ⟨d, rfl, q1⟩ := onD_of q1
  refine sv σ F1 H1 E1 _ _ I1 q1 fun y F2 H2 E2 u I2 X2 r2 q2 => ?_
  obtain ⟨c, rfl, q2⟩ := onD_of q2
  refine sr σ F2 H2 E2 _ _ I2 q2 fun ps F3 H3 E3 ds I3 X3 r3 q3 => ?_
  exact k ((x, y) :: ps) F3 H3 E3 ((d, c) :: ds) I3 ((X1.trans X2).trans X3) (.cons ⟨dp_same (X2.fz.trans X3.fz) r1, dp_same X3.fz r2⟩ r3) q3
def keyD : Key → D
  | .inl i => .int i
  | .inr x => .str x
theorem dp_keyD {F : Hp} (k : Key) : Dp K F (kV k) (keyD k) := by
  cases k with
  | inl i => exact .int i
  | inr x => exact .str x
def keysP : List (D × D) → Option (List Key)
  | [] => some []
  | p :: ps => (keyOf p.1).bind fun k => (keysP ps).map (k :: ·)
theorem keysP_of {F : Hp} : ∀ {ps : List (V × V)} {ds : List (D × D)} {ks : List Key}, Paired (fun (p : V × V) (q : D × D) => Dp K F p.1 q.1 ∧ Dp K F p.2 q.2) ps ds → keysP ds = some ks → ∃ kvs : List (Key × V), ps = kvs.map (fun kv => (kV kv.1, kv.2)) ∧ kvs.map (·.1) = ks
  | _, _, _, .nil, e => by cases Option.some.inj e; exact ⟨[], rfl, rfl⟩
  | p :: ps, d :: ds, ks, .cons h t, e => by
    have e : ((keyOf d.1).bind fun k => (keysP ds).map (k :: ·)) = some ks := e
    cases e1 : keyOf d.1 with
    | none => rw [e1] at e; cases e
    | some k1 =>
      rw [e1] at e
      have e : (keysP ds).map (k1 :: ·) = some ks := e
      cases e2 : keysP ds with
      | none => rw [e2] at e; cases e
      | some k2 =>
        rw [e2] at e
        cases Option.some.inj e
        obtain ⟨kvs, g1, g2⟩ := keysP_of t e2
        refine ⟨(k1, p.2) :: kvs, ?_, by rw [List.map_cons, g2]⟩
        rw [List.map_cons, ← g1]
        have e3 := keyOf_kV h.1 e1
        obtain ⟨p1, p2⟩ := p
        have e3 : p1 = kV k1 := e3
        rw [e3]
/-- the keys, each once, in the order of their first -/
def onceK (acc : List Key) (ks : List Key) : List Key := ks.foldl (fun acc k => if (acc.any fun x => decide (x = k)) = true then acc else acc ++ [k]) acc
theorem putK_keys (kvs : List (Key × V)) (k : Key) (v : V) : (putK kvs k v).map (·.1) = if ((kvs.map (·.1)).any fun x => decide (x = k)) = true then kvs.map (·.1) else kvs.map (·.1) ++ [k] := by
  unfold putK
  have ea : ((kvs.map (·.1)).any fun x => decide (x = k)) = (kvs.any fun kv => decide (kv.1 = k)) := by rw [List.any_map]; rfl
  rw [ea]
  by_cases h : (kvs.any fun kv => decide (kv.1 = k)) = true
  · rw [if_pos h, if_pos h, List.map_map]
    apply List.map_congr_left
    intro p _
    show (if p.1 = k then (p.1, v) else p).1 = p.1
    split <;> rfl
  · rw [if_neg h, if_neg h, List.map_append]
    rfl
theorem mergeK_keys : ∀ (more kvs : List (Key × V)), (mergeK kvs more).map (·.1) = onceK (kvs.map (·.1)) (more.map (·.1))
  | [], kvs => rfl
  | p :: more, kvs => by
    have h := mergeK_keys more (putK kvs p.1 p.2)
    rw [putK_keys] at h
    exact h
def wiDisp (w : WPs) : WI := fun E Q => w E fun ps E1 => ps.length ≤ 15 ∧ onO (keysP ps) fun ks => Q ((onceK [] ks).map keyD) E1
theorem pui_disp {tg : Expr} {ks : List (Option Expr)} {vs : List Expr} {w : WPs} (h : PUPs X pos ks vs w) (hall : ks.all (·.isSome) = true := by rfl) (hl : ks.length = vs.length := by rfl) (h0 : ks ≠ [] := by exact fun z => by cases z) (h15 : ks.length ≤ 15 := by decide) : PUI X tg (.Dict ks vs pos) (wiDisp w) := by
  obtain ⟨trs, pr, sr⟩ := h.ex
  refine ⟨_, pi_keys (pe_frz (pe_disp pr hall hl h0 h15)), fun σ F H E Qd R I q k => ?_⟩
  intro d hd
  have nm : ¬ Mine σ E d := fun m => by
    obtain ⟨o, e⟩ := I.mineSome m
    rw [hd] at e
    cases e
  refine sr σ F (upd H d (.dK [])) E _ _ (I.push hd) q fun ps F1 H1 E1 ds I1 X1 r1 q1 => ?_
  obtain ⟨h15', q1⟩ := q1
  obtain ⟨kks, ek, q2⟩ := onO_of q1
  have hd1 : H1 d = some (.dK []) := X1.keep _ _ upd_same nm
  have F1d : F1 d = none := by
    cases z : F1 d with
    | none => rfl
    | some u =>
      rcases X1.new d u z with e | e
      · rw [I.sub.free hd] at e; cases e
      · rw [upd_same] at e; cases e
  obtain ⟨kvs, ep, ekk⟩ := keysP_of r1 ek
  have hlen : kvs.length ≤ 15 := by
    have e1 := congrArg List.length ep
    rw [List.length_map] at e1
    have e2 := Paired.length r1
    omega
  refine ⟨hd1, kvs, ep, hlen, d, .dK (mergeK [] kvs), rfl, upd_same, True.intro, fun od => ?_⟩
  rw [upd_upd]
  have nm1 : ¬ Mine σ E1 d := fun m => nm ((mine_kin X1.kin.2).mpr m)
  have I2 : EnvD X.K (upd F1 d (.frz od (.dK (mergeK [] kvs)))) (upd H1 d (.frz od (.dK (mergeK [] kvs)))) σ E1 := (I1.poke F1d nm1).freeze F1d upd_same nm1
  have X2 : Ext F H (upd F1 d (.frz od (.dK (mergeK [] kvs)))) (upd H1 d (.frz od (.dK (mergeK [] kvs)))) σ E E1 := by
    have ne : ∀ b o, H b = some o → b ≠ d := fun b o e => ne_of_none e hd
    refine ⟨X1.fz.trans (same_upd F1d), fun b o e => ?_, fun b o e n => ?_, fun b o e => ?_, X1.kin⟩
    · by_cases hb : b = d
      · subst hb; exact .inr hd
      · rw [upd_ne hb] at e
        rcases X1.new b o e with z | z
        · exact .inl z
        · rw [upd_ne hb] at z; exact .inr z
    · rw [upd_ne (ne b o e)]
      exact X1.keep b o (by rw [upd_ne (ne b o e)]; exact e) n
    · rw [upd_ne (ne b o e)]
      exact X1.live b o (by rw [upd_ne (ne b o e)]; exact e)
  refine ⟨d, od, rfl, .inl ⟨_, upd_same, k _ _ _ E1 _ I2 X2 (fun i F3 H3 s1 s2 => ⟨fun c e => ?_, fun hl => ?_⟩) q2⟩⟩
  · have ekeys : (mergeK [] kvs).map (·.1) = onceK [] kks := by rw [mergeK_keys, ekk]; rfl
    have hH3 := s2 _ _ (s1 _ _ (upd_same (H := F1) (a := d) (o := .frz od (.dK (mergeK [] kvs)))))
    rw [List.getElem?_map, ← ekeys, List.getElem?_map] at e
    cases z : (mergeK [] kvs)[i]? with
    | none => rw [z] at e; cases e
    | some kv =>
      rw [z] at e
      cases Option.some.inj e
      refine ⟨⟨hH3, (List.getElem?_eq_some_iff.mp z).1⟩, fun x H' y => ?_⟩
      obtain ⟨rfl, k', v', z', rfl⟩ := y
      rw [z] at z'
      cases z'
      exact same_yld s2 (dp_keyD _)
  · have ekeys : (mergeK [] kvs).map (·.1) = onceK [] kks := by rw [mergeK_keys, ekk]; rfl
    have hH3 := s2 _ _ (s1 _ _ (upd_same (H := F1) (a := d) (o := .frz od (.dK (mergeK [] kvs)))))
    refine ⟨hH3, ?_⟩
    rw [List.length_map, ← ekeys, List.length_map] at hl
    exact hl
end
end AF

set_option Elab.async false
set_option linter.all false
set_option maxRecDepth 100000
set_option maxHeartbeats 4000000
/-! dict comprehensions of two clauses whose keys are tuples: as HandS.Comp's list comprehensions of two clauses, and HandS.DictComp's of one. -/
namespace AF
open PySem PySem.Spec PyProof.Rows L2
theorem d_dictSetT {X : Cx} {pins : List (Addr × Obj)} {σ : L2.St} {H : Hp} {s : Shared} {E : Value → Shared → Prop} {D b : Addr} {kvs : List (List Key × V)} {k : List Key} {v : V} {r : Value} {Q : Unit → Shared → Prop} (hu : X.A.units < cLine) (I : Inv X pins σ H s) (e : H D = some (.dT kvs)) (eb : H b = some (.tup (k.map kV))) (l : kvs.length < sizeLine)
    (rv : RelV v r) (h : ∀ s', Inv X pins σ (upd H D (.dT (putK kvs k v))) s' → Q () s') : wpAny (model X.prog X.w) X.A (dictSet D (.ref b) r) Q E s := by
  obtain ⟨z, hd, xs, rel, dd⟩ := dt_of I.hok e
  have hz : xs.length ≤ sizeLine := by rw [← Paired.length rel]; exact z
  have hl : (putK kvs k v).length ≤ sizeLine := by have := length_putK kvs k v; omega
  refine wpAny_dictSet_heap (hsz := hz) (knd := tupleKind (mixKind X.prog X.w)) hu (key_of I.hok eb) dd fun h' dd' hs => h _ ?_
  obtain ⟨q, es, ep, hq, h2, h3, h4, _, h5⟩ := dd'
  refine d_write I (by rw [e]; exact True.intro) hs ⟨q, hq⟩ ⟨hl, hd, _, (rel.put k eb rv).keeps fun c ys ec => ?_, q, es, ep, hq, h2, h3, h4, h5⟩
  rw [upd_ne (ne_of ec e (fun z => nomatch z))]
  exact ec
theorem compTurn2_outD (kx vx t0 i0 t1 i1 : Expr) (ifs0 ifs1 : List Expr) (scope : Scope) (pos : Pos) (it : Value) (D : Addr) (env : Env) :
    compTurn (.DictComp kx vx [⟨t0, i0, ifs0, 0⟩, ⟨t1, i1, ifs1, 0⟩] scope pos) 0 it (.ref D) env = (do
      standAt i0.pos
      match ← pyNext it with
      | none => pure (.done .next)
      | some v =>
        letOwnedTupleGo t0 it v
        assign t0 env v
        let mut ok := true
        for c in ifs0 do
          if ok then ok ← isTrue c env (eval c env)
        if ok then
          let x ← eval i1 env
          standAt i1.pos
          let x ← foldedSetIterable i1 env x
          let _ ← runOwn (.compStart (.DictComp kx vx [⟨t0, i0, ifs0, 0⟩, ⟨t1, i1, ifs1, 0⟩] scope pos) 1 (← holding [x] (pyIter x)) (.ref D) env) env
        again (.compLoop (.DictComp kx vx [⟨t0, i0, ifs0, 0⟩, ⟨t1, i1, ifs1, 0⟩] scope pos) 0 it (.ref D) env)) := by rfl
theorem compTurn2_inD (kx vx t0 i0 t1 i1 : Expr) (ifs0 ifs1 : List Expr) (scope : Scope) (pos : Pos) (it : Value) (D : Addr) (env : Env) :
    compTurn (.DictComp kx vx [⟨t0, i0, ifs0, 0⟩, ⟨t1, i1, ifs1, 0⟩] scope pos) 1 it (.ref D) env = (do
      standAt i1.pos
      match ← pyNext it with
      | none => pure (.done .next)
      | some v =>
        letOwnedTupleGo t1 it v
        assign t1 env v
        let mut ok := true
        for c in ifs1 do
          if ok then ok ← isTrue c env (eval c env)
        if ok then
          (do
            let kv ← eval kx env
            let vv ← holding [kv] (eval vx env)
            standAt { kx.pos with endLine := vx.pos.endLine, endCol := vx.pos.endCol }
            holding [kv, vv] (dictSet D kv vv))
        again (.compLoop (.DictComp kx vx [⟨t0, i0, ifs0, 0⟩, ⟨t1, i1, ifs1, 0⟩] scope pos) 1 it (.ref D) env)) := by rfl

section
variable {prog : Program} {w : World} {A : Around} {R : Result → Shared → Prop} {s : Shared} {kx vx t0 i0 t1 i1 : Expr} {ifs0 ifs1 : List Expr} {scope : Scope} {pos : Pos} {it : Value} {D : Addr} {env : Env}
/-- the loop of the first clause -/
theorem compLoop2_outD (hs : ∀ x, foldedSetIterable i1 env x = pure x) (I : Nat → Shared → Prop)
    (turn : ∀ n s, I n s → wpAny (model prog w) A (pyNext it) (fun r s₁ => match r with
      | none => R (.ok .next) s₁
      | some v => wpAny (model prog w) A (letOwnedTupleGo t0 it v) (fun _ s₁' => wpAny (model prog w) A (assign t0 env v) (fun _ s₂ =>
          wpAny (model prog w) A (forIn ifs0 true fun c r => if r = true then do let ok ← isTrue c env (eval c env); pure (ForInStep.yield ok) else pure (ForInStep.yield r)) (fun ok s₃ =>
            if ok = true then wpAny (model prog w) A (eval i1 env) (fun x s₄ => wpAny (model prog w) A (pyIter x) (fun it1 s₅ =>
              codeAny (model prog w) A (.compStart (.DictComp kx vx [⟨t0, i0, ifs0, 0⟩, ⟨t1, i1, ifs1, 0⟩] scope pos) 1 it1 (.ref D) env) (fun r s' => match r with
                | .ok _ => ∃ m, m < n ∧ I m s'
                | .error _ => False) s₅) (notedBy (model prog w) A env fun e s' => R (.error e) s') s₄) (notedBy (model prog w) A env fun e s' => R (.error e) s') s₃
            else ∃ m, m < n ∧ I m s₃) (notedBy (model prog w) A env fun e s' => R (.error e) s') s₂) (notedBy (model prog w) A env fun e s' => R (.error e) s') s₁') (notedBy (model prog w) A env fun e s' => R (.error e) s') s₁) (notedBy (model prog w) A env fun e s' => R (.error e) s') s)
    (n : Nat) (h : I n s) :
    codeAny (model prog w) A (.compLoop (.DictComp kx vx [⟨t0, i0, ifs0, 0⟩, ⟨t1, i1, ifs1, 0⟩] scope pos) 0 it (.ref D) env) R s := by
  refine codeAny_loop rfl I (fun n s hI => ?_) n h
  show wpAny _ A ((compTurn (.DictComp kx vx [⟨t0, i0, ifs0, 0⟩, ⟨t1, i1, ifs1, 0⟩] scope pos) 0 it (.ref D) env).onRaise (fun x => do noteFrame x env; theTreesLotGoes x)) _ _ s
  refine wpAny_noted ?_
  rw [compTurn2_outD]
  refine wpAny_bind (wpAny_standAt (wpAny_bind (wpAny_mono (turn n s hI) (fun r s₁ h₁ => ?_) fun _ _ h' => h')))
  cases r with
  | none => exact wpAny_pure h₁
  | some v =>
    refine wpAny_bind (wpAny_mono h₁ (fun _ s₁' h₁' => ?_) fun _ _ h' => h')
    refine wpAny_bind (wpAny_mono h₁' (fun _ s₂ h₂ => wpAny_bind (wpAny_mono h₂ (fun ok s₃ h₃ => ?_) fun _ _ h' => h')) fun _ _ h' => h')
    cases ok with
    | false => exact wpAny_pure ⟨rfl, h₃⟩
    | true =>
      refine wpAny_bind (wpAny_mono h₃ (fun x s₄ h₄ => ?_) fun _ _ h' => h')
      refine wpAny_bind (wpAny_standAt (wpAny_bind (wpAny_of_eq (hs x) (wpAny_bind (wpAny_holding (wpAny_mono h₄ (fun it1 s₅ h₅ => ?_) fun _ _ h' => h'))))))
      refine wpAny_bind (wpAny_runOwn ?_)
      rw [Around.mark_none]
      refine codeAny_mono h₅ fun r s' hr => ?_
      cases r with
      | ok f =>
        first
          | exact wpAny_pure ⟨rfl, hr⟩
          | exact wpAny_bind (wpAny_pure (wpAny_pure ⟨rfl, hr⟩))
      | error e => exact hr.elim
/-- the loop of the second -/
theorem compLoop2_inD (I : Nat → Shared → Prop)
    (turn : ∀ n s, I n s → wpAny (model prog w) A (pyNext it) (fun r s₁ => match r with
      | none => R (.ok .next) s₁
      | some v => wpAny (model prog w) A (letOwnedTupleGo t1 it v) (fun _ s₁' => wpAny (model prog w) A (assign t1 env v) (fun _ s₂ =>
          wpAny (model prog w) A (forIn ifs1 true fun c r => if r = true then do let ok ← isTrue c env (eval c env); pure (ForInStep.yield ok) else pure (ForInStep.yield r)) (fun ok s₃ =>
            if ok = true then wpAny (model prog w) A (eval kx env) (fun kv s₄ => wpAny (model prog w) A (eval vx env) (fun vv s₅ =>
              wpAny (model prog w) A (dictSet D kv vv) (fun _ s₆ => ∃ m, m < n ∧ I m s₆) (notedBy (model prog w) A env fun e s' => R (.error e) s') s₅) (notedBy (model prog w) A env fun e s' => R (.error e) s') s₄) (notedBy (model prog w) A env fun e s' => R (.error e) s') s₃
            else ∃ m, m < n ∧ I m s₃) (notedBy (model prog w) A env fun e s' => R (.error e) s') s₂) (notedBy (model prog w) A env fun e s' => R (.error e) s') s₁') (notedBy (model prog w) A env fun e s' => R (.error e) s') s₁) (notedBy (model prog w) A env fun e s' => R (.error e) s') s)
    (n : Nat) (h : I n s) :
    codeAny (model prog w) A (.compLoop (.DictComp kx vx [⟨t0, i0, ifs0, 0⟩, ⟨t1, i1, ifs1, 0⟩] scope pos) 1 it (.ref D) env) R s := by
  refine codeAny_loop rfl I (fun n s hI => ?_) n h
  show wpAny _ A ((compTurn (.DictComp kx vx [⟨t0, i0, ifs0, 0⟩, ⟨t1, i1, ifs1, 0⟩] scope pos) 1 it (.ref D) env).onRaise (fun x => do noteFrame x env; theTreesLotGoes x)) _ _ s
  refine wpAny_noted ?_
  rw [compTurn2_inD]
  refine wpAny_bind (wpAny_standAt (wpAny_bind (wpAny_mono (turn n s hI) (fun r s₁ h₁ => ?_) fun _ _ h' => h')))
  cases r with
  | none => exact wpAny_pure h₁
  | some v =>
    refine wpAny_bind (wpAny_mono h₁ (fun _ s₁' h₁' => ?_) fun _ _ h' => h')
    refine wpAny_bind (wpAny_mono h₁' (fun _ s₂ h₂ => wpAny_bind (wpAny_mono h₂ (fun ok s₃ h₃ => ?_) fun _ _ h' => h')) fun _ _ h' => h')
    cases ok with
    | false => exact wpAny_pure ⟨rfl, h₃⟩
    | true =>
      exact wpAny_bind (wpAny_bind (wpAny_mono h₃ (fun kv s₄ h₄ => wpAny_bind (wpAny_holding (wpAny_mono h₄ (fun vv s₅ h₅ => wpAny_bind (wpAny_standAt (wpAny_holding (wpAny_mono h₅ (fun _ s₆ h₆ => wpAny_pure ⟨rfl, h₆⟩) fun _ _ h' => h')))) fun _ _ h' => h'))) fun _ _ h' => h'))
/-- the second clause's start -/
theorem compStart1_okD (h0 : codeAny (model prog w) A (.compLoop (.DictComp kx vx [⟨t0, i0, ifs0, 0⟩, ⟨t1, i1, ifs1, 0⟩] scope pos) 1 it (.ref D) env) R s)
    (h : wpAny (model prog w) A (pyIter it) (fun it' s' => codeAny (model prog w) A (.compLoop (.DictComp kx vx [⟨t0, i0, ifs0, 0⟩, ⟨t1, i1, ifs1, 0⟩] scope pos) 1 it' (.ref D) env) R s')
      (notedBy (model prog w) A env fun x s' => R (.error x) s') s) :
    codeAny (model prog w) A (.compStart (.DictComp kx vx [⟨t0, i0, ifs0, 0⟩, ⟨t1, i1, ifs1, 0⟩] scope pos) 1 it (.ref D) env) R s := by
  refine codeAny_of_tree ?_
  show wpAny _ _ ((compStart (.DictComp kx vx [⟨t0, i0, ifs0, 0⟩, ⟨t1, i1, ifs1, 0⟩] scope pos) 1 it (.ref D) env).onRaise (fun x => do noteFrame x env; standAt theWindowsPlace)) _ _ s
  refine wpAny_notedAt ?_
  unfold compStart
  show wpAny _ _ (ask >>= _) _ _ s
  refine wpAny_bind (wpAny_askSetting (wpAny_ite ?_))
  split
  · first
      | exact wpAny_bind (wpAny_pure (wpAny_pure (And.intro rfl h0)))
      | exact wpAny_pure (And.intro rfl h0)
  · first
      | exact wpAny_bind (wpAny_rule (wpAny_bind (wpAny_standAt (wpAny_bind (wpAny_mono h (fun it' s' h' => wpAny_pure (And.intro rfl h')) fun _ _ x => x)))))
      | (refine wpAny_bind (wpAny_rule ?_); show wpAny _ _ (standAt i1.pos >>= _) _ _ s; exact wpAny_bind (wpAny_standAt (wpAny_bind (wpAny_mono h (fun it' s' h' => wpAny_pure (And.intro rfl h')) fun _ _ x => x))))
end

section
variable {X : Cx}
/-- {k: v for tg in iter if .. for tg1 in iter1 if ..}, the keys tuples: behind the first clause's store and tests the second source's own loop, from which Nx is reached. vs: the block's names; vs1: those of the second target -/
def tDc2 (wi : TI) (g : TG) (tt : TT) (wi1 : TI) (g1 : TG) (tt1 : TT) (tk tv : TE) (vs vs1 : List Nat) : TE := fun σ H Q => wi σ H fun J H1 => ∀ D, H1 D = none → ∃ W : Nat → Nat → Hp → Prop, (∃ m, W 0 m (upd H1 D (.dT []))) ∧ ∀ i m H, W i m H →
  (J.stop i H ∧ Q (.ref D) H) ∨ (J.go i H ∧ ∃ Nx : Hp → Prop, (∀ H', Nx H' → ∃ m', m' < m ∧ W (i + 1) m' H') ∧ ∀ x H', J.yld i H x H' → g x (wipe σ vs) H' fun σ2 H2 => wipe σ2 vs = wipe σ vs ∧ tt σ2 H2 fun b H3 =>
    if b = true then wi1 σ2 H3 fun J1 H4 => ∃ W1 : Nat → Nat → Hp → Prop, (∃ m, W1 0 m H4) ∧ ∀ j k H, W1 j k H →
      (J1.stop j H ∧ Nx H) ∨ (J1.go j H ∧ ∃ Nx1 : Hp → Prop, (∀ H', Nx1 H' → ∃ k', k' < k ∧ W1 (j + 1) k' H') ∧ ∀ x H', J1.yld j H x H' → g1 x (wipe σ2 vs1) H' fun σ3 H5 => wipe σ3 vs1 = wipe σ2 vs1 ∧ tt1 σ3 H5 fun b H6 =>
        if b = true then tk σ3 H6 fun y H7 => tv σ3 H7 fun z H8 => ∃ kvs k b, y = .ref b ∧ H8 b = some (.tup (k.map kV)) ∧ H8 D = some (.dT kvs) ∧ kvs.length < sizeLine ∧ Nx1 (upd H8 D (.dT (putK kvs k z))) else Nx1 H6)
    else Nx H3)
theorem dc2_core {pins : List (Addr × Obj)} {s : Shared} {σ : L2.St} {H : Hp} {Q : VK} {kx vx tg iter tg1 iter1 : Expr} {ifs ifs1 : List Expr} {scope : Scope} {own : List (Str × Nat)} {vs1 : List Nat} {pos pos' : Pos} {wi wi1 : TI} {g g1 : TG} {tt tt1 : TT} {tk tv : TE} {use : Option (Value → Sem Unit)} {Qf : Value → Shared → Prop}
    (hu0 : X.A.units < cLine) (hc : X.calm = true) (hN : X.N.Nodup) (I : Inv X pins σ H s) (hi : PI X tg iter wi) (ok : BlkOk X.N X.env.scope scope own) (hv : ∀ i ∈ vs1, i ∈ own.map (·.2))
    (hg : ∀ (s : Shared) (H : Hp) (C : Addr) (cl : List (Str × Addr)) (fp : List Addr), PG (X.blk s H scope (compEnvC scope cl C X.env) fp) tg g) (ht : ∀ (s : Shared) (H : Hp) (C : Addr) (cl : List (Str × Addr)) (fp : List Addr), PTs (X.blk s H scope (compEnvC scope cl C X.env) fp) ifs tt)
    (hk : ∀ (s : Shared) (H : Hp) (C : Addr) (cl : List (Str × Addr)) (fp : List Addr), PE (X.blk s H scope (compEnvC scope cl C X.env) fp) kx tk)
    (he : ∀ (s : Shared) (H : Hp) (C : Addr) (cl : List (Str × Addr)) (fp : List Addr), PE (X.blk s H scope (compEnvC scope cl C X.env) fp) vx tv) (hs : ∀ x, foldedSetIterable iter X.env x = pure x)
    (hi1 : ∀ (s : Shared) (H : Hp) (C : Addr) (cl : List (Str × Addr)) (fp : List Addr), PI (X.blk s H scope (compEnvC scope cl C X.env) fp) tg1 iter1 wi1)
    (hg1 : ∀ (s : Shared) (H : Hp) (C : Addr) (cl : List (Str × Addr)) (fp : List Addr), PG (X.blk s H scope (compEnvC scope cl C X.env) fp) tg1 g1)
    (ht1 : ∀ (s : Shared) (H : Hp) (C : Addr) (cl : List (Str × Addr)) (fp : List Addr), PTs (X.blk s H scope (compEnvC scope cl C X.env) fp) ifs1 tt1)
    (hs1 : ∀ env x, foldedSetIterable iter1 env x = pure x)
    (h : tDc2 wi g tt wi1 g1 tt1 tk tv (own.map (·.2)) vs1 σ H Q)
    (hRR : ∀ D C s' m H', Inv X pins σ H' s' → Q (.ref D) H' → s'.heap.Ns C m → FpOk X pins H' C → compPost (model X.prog X.w) X.A X.xe use Qf (.ref D) C (.ok .next) s') :
    wpAny (model X.prog X.w) X.A (comprehension (.DictComp kx vx [⟨tg, iter, ifs, 0⟩, ⟨tg1, iter1, ifs1, 0⟩] scope pos) scope X.env pos' (newDict) false (eval iter X.env) use) Qf X.xe s := by
  have hfree : ∀ y ∈ scope.names, y.2 = .free → ∃ c, X.env.cells.lookup y.1 = some c := fun y hy e => by
    rcases ok.free y hy e with k | k
    · exact I.ok.has _ (.inl k)
    · exact I.ok.has _ (.inr k)
  refine wpAny_comprehension_free (use := use) rfl hs (closure_ok hfree) ok.kind (fun y hy e => by rw [ok.uniq y hy, e])
    (thn (hi.run pins s σ H _ I h) fun xv s1 hx => thn hx fun itv s2 h2 => ?_)
  obtain ⟨it, fp, tn, J, H2, e, I2, T, st2, f2, q⟩ := h2
  subst e
  refine wpAny_newObj_type (newEnv_comp ?_)
  generalize hD : s2.heap.objs.size = D
  have hDn : H2 D = none := I2.hok.fresh (Nat.le_of_eq hD)
  obtain ⟨W, ⟨m0, w0⟩, turn⟩ := q D hDn
  -- the new list
  generalize hs3 : ({ s2 with heap := s2.heap.push { cls := .type "dict", data := .dict #[] } } : Shared) = s3
  have I3 : Inv X pins σ (upd H2 D (.dT [])) s3 := by
    rw [← hs3]
    refine I2.laid (t' := s2.toks) (fun b o e => Heap.get?_push_of_some _ e) (Nat.le_of_eq hD) ?_
    rw [← hD]
    exact dt_empty s2.heap I2.big
  have h3 : s3.heap = s2.heap.push { cls := .type "dict", data := .dict #[] } := by rw [← hs3]
  have sz : ∀ b ∈ fp, b < s2.heap.objs.size := fun b hb => by
    obtain ⟨o, e, _⟩ := T.obj _ _ st2 b hb
    exact Heap.lt_size e
  have f3 : ∀ b ∈ fp, FpOk X pins (upd H2 D (.dT [])) b ∧ b < s3.heap.objs.size := fun b hb => by
    have hlt := sz b hb
    refine ⟨⟨?_, (f2 b hb).2⟩, by rw [h3, Heap.size_push]; exact Nat.lt_succ_of_lt hlt⟩
    rw [upd_ne (by rw [← hD]; exact Nat.ne_of_lt hlt)]
    exact (f2 b hb).1
  have st3 : tn 0 s3.heap := T.keep _ _ _ st2 fun b _ o e => by rw [h3]; exact Heap.get?_push_of_some _ e
  have I4 := block_start I3 ok hN f3
  have pg := hg s3 (upd H2 D (.dT [])) s3.heap.objs.size (cellsFrom (s3.heap.objs.size + 1) scope.names (cloFrom X.env.cells scope.names [])) fp
  have pt := ht s3 (upd H2 D (.dT [])) s3.heap.objs.size (cellsFrom (s3.heap.objs.size + 1) scope.names (cloFrom X.env.cells scope.names [])) fp
  have pk := hk s3 (upd H2 D (.dT [])) s3.heap.objs.size (cellsFrom (s3.heap.objs.size + 1) scope.names (cloFrom X.env.cells scope.names [])) fp
  have pe := he s3 (upd H2 D (.dT [])) s3.heap.objs.size (cellsFrom (s3.heap.objs.size + 1) scope.names (cloFrom X.env.cells scope.names [])) fp
  have pi1 := hi1 s3 (upd H2 D (.dT [])) s3.heap.objs.size (cellsFrom (s3.heap.objs.size + 1) scope.names (cloFrom X.env.cells scope.names [])) fp
  have pg1 := hg1 s3 (upd H2 D (.dT [])) s3.heap.objs.size (cellsFrom (s3.heap.objs.size + 1) scope.names (cloFrom X.env.cells scope.names [])) fp
  have pt1 := ht1 s3 (upd H2 D (.dT [])) s3.heap.objs.size (cellsFrom (s3.heap.objs.size + 1) scope.names (cloFrom X.env.cells scope.names [])) fp
  show codeAny _ _ (.compStart (.DictComp kx vx [⟨tg, iter, ifs, 0⟩, ⟨tg1, iter1, ifs1, 0⟩] scope pos) 0 (.ref it) (.ref D) (compEnvC scope (cellsFrom (s3.heap.objs.size + 1) scope.names (cloFrom X.env.cells scope.names [])) s3.heap.objs.size X.env)) (compPost (model X.prog X.w) X.A X.xe use Qf (.ref D) s3.heap.objs.size) { s3 with heap := pushCells (s3.heap.push { cls := .type "dict", data := .dict #[] }) scope.names }
  have nfp : ∀ b ∈ fp, (upd H2 D (.dT [])) b = none := fun b hb => (f3 b hb).1.1
  generalize hce : compEnvC scope (cellsFrom (s3.heap.objs.size + 1) scope.names (cloFrom X.env.cells scope.names [])) s3.heap.objs.size X.env = ce at I4 pg pt pk pe pi1 pg1 pt1 ⊢
  have cL : ce.locals = s3.heap.objs.size := by subst hce; rfl
  generalize hH3 : upd H2 D (.dT []) = H3 at I3 I4 pg pt pk pe pi1 pg1 pt1 w0 nfp f3
  generalize hs4 : ({ s3 with heap := pushCells (s3.heap.push { cls := .type "dict", data := .dict #[] }) scope.names } : Shared) = s4 at I4 ⊢
  have st4 : tn 0 s4.heap := T.keep _ _ _ st3 fun b _ o e => by rw [← hs4]; exact pushCells_keeps _ _ _ _ (Heap.get?_push_of_some _ e)
  have stat : ∀ {σ' : L2.St} {H' : Hp} {s' : Shared}, Inv (X.blk s3 H3 scope ce fp) [] σ' H' s' → (∀ b ∈ fp, H' b = none) → ∀ b ∈ fp, FpOk (X.blk s3 H3 scope ce fp) [] H' b := fun {σ' H' s'} I' hn b hb =>
    ⟨hn b hb, (I'.ok.exf b hb).1, I'.ok.exfs b hb, .inl hb, fun x c e => (I'.ok.exf b hb).2 x c e, fun p hp => absurd (show p ∈ ([] : List (Addr × Obj)) ++ [] from hp) (by simp)⟩
  have loop : codeAny (model X.prog X.w) X.A (.compLoop (.DictComp kx vx [⟨tg, iter, ifs, 0⟩, ⟨tg1, iter1, ifs1, 0⟩] scope pos) 0 (.ref it) (.ref D) ce) (compPost (model X.prog X.w) X.A X.xe use Qf (.ref D) s3.heap.objs.size) s4 := by
    refine compLoop2_outD (hs1 ce) (fun n s' => ∃ i H', Inv (X.blk s3 H3 scope ce fp) [] (wipe σ (own.map (·.2))) H' s' ∧ tn i s'.heap ∧ (∀ b ∈ fp, H' b = none) ∧ W i n H') ?_ m0 ⟨0, H3, I4, st4, nfp, w0⟩
    rintro n s5 ⟨i, H5, I5, st5, n5, w5⟩
    rcases turn i n H5 w5 with ⟨stop, qq⟩ | ⟨go, Nx, hNx, step⟩
    · have td := T.done (X.blk s3 H3 scope ce fp) rfl rfl rfl hc i [] s5 _ H5 (fun _ _ => False) I5 (stat I5 n5) st5 stop
      refine thnF td fun r s6 ⟨hr, I6⟩ => ?_
      subst hr
      -- back in the def's context
      have I7 : Inv X pins σ H5 s6 := I3.call' (ch := fp) I6.os I6.base I6.hok I6.bare fun b hb => ⟨(f3 b hb).1.2.2.2.1, (f3 b hb).1.2.1, (f3 b hb).1.2.2.2.2.1, (f3 b hb).1.2.2.2.2.2⟩
      have nC : H5 s3.heap.objs.size = none := by
        have z : H5 ce.locals = none := I6.free
        rw [cL] at z
        exact z
      obtain ⟨m, hn, _⟩ := I6.loc
      have hn : s6.heap.Ns ce.locals m := hn
      rw [cL] at hn
      exact hRR D s3.heap.objs.size s6 m H5 I7 qq hn (I3.fpOk (Nat.le_refl _) nC)
    · have ti := T.item (X.blk s3 H3 scope ce fp) rfl rfl rfl hc i [] s5 _ H5 (fun _ _ => False) I5 (stat I5 n5) st5 go
      refine thnF ti fun r s6 ⟨u, hr, h6⟩ => ?_
      subst hr
      refine thnF h6 fun _ s7 ⟨x, H7, I7, r7, y7, st7, n7⟩ => ?_
      have I7' := I7.pinned (stat I7 n7) (T.obj _ _ st7)
      refine thnF (pg.run _ s7 _ H7 x u _ I7' r7 (step x H7 y7)) fun _ s8 ⟨σ8, H8, I8, hw8, q8⟩ => ?_
      refine thnF (pt.run _ s8 σ8 H8 _ I8 q8) fun b s9 ⟨H9, I9, q9⟩ => ?_
      -- the turn's end, from any slots that know what the block knew at its start
      have fin : ∀ {σ9 : L2.St} {s' : Shared} {H' : Hp}, Inv (X.blk s3 H3 scope ce fp) ([] ++ pinsAt fp s7.heap) σ9 H' s' → (wipe σ (own.map (·.2))).length = σ9.length → (∀ (j : Nat) v, (wipe σ (own.map (·.2)))[j]? = some (some v) → σ9[j]? = some (some v)) → Nx H' →
          ∃ m, m < n ∧ ∃ i H', Inv (X.blk s3 H3 scope ce fp) [] (wipe σ (own.map (·.2))) H' s' ∧ tn i s'.heap ∧ (∀ b ∈ fp, H' b = none) ∧ W i m H' := fun {σ9 s' H'} I' hl hk nx => by
        obtain ⟨m', hm, w'⟩ := hNx H' nx
        have pin' : ∀ b ∈ fp, ∀ o, s7.heap.get? b = some o → s'.heap.get? b = some o ∧ H' b = none := fun b hb o e =>
          let z := I'.pin (b, o) (List.mem_append_right _ (List.mem_append_right _ (mem_pinsAt hb e)))
          ⟨z.1, z.2.1⟩
        refine ⟨m', hm, i + 1, H', (I'.unpinned (pins := [])).weak hl hk, T.keep _ _ _ st7 fun b hb o e => (pin' b hb o e).1, fun b hb => ?_, w'⟩
        obtain ⟨o, e, _⟩ := T.obj _ _ st7 b hb
        exact (pin' b hb o e).2
      have hl8 : (wipe σ (own.map (·.2))).length = σ8.length := by rw [← hw8, wipe_length]
      have hk8 : ∀ (j : Nat) v, (wipe σ (own.map (·.2)))[j]? = some (some v) → σ8[j]? = some (some v) := fun j v e => by
        rw [← hw8] at e
        exact (wipe_some e).1
      have hk9 : ∀ (j : Nat) v, (wipe σ (own.map (·.2)))[j]? = some (some v) → (wipe σ8 vs1)[j]? = some (some v) := fun j v e => by
        rw [← hw8] at e
        obtain ⟨e1, e2⟩ := wipe_some e
        rw [wipe_out fun z => e2 (hv j z)]
        exact e1
      cases b with
      | false =>
        simp only [Bool.false_eq_true, if_false] at q9 ⊢
        exact fin I9 hl8 hk8 q9
      | true =>
        simp only [if_true] at q9 ⊢
        refine thnF (pi1.run _ s9 σ8 H9 _ I9 q9) fun xv s10 hx => thnF hx fun itv s11 h11 => ?_
        obtain ⟨it1, fp1, tn1, J1, H11, e1, I11, T1, st11, f11, W1, ⟨m1, w1⟩, turn1⟩ := h11
        subst e1
        -- the inner loop
        have stat1 : ∀ {H' : Hp}, (∀ b ∈ fp1, H' b = none) → ∀ b ∈ fp1, FpOk (X.blk s3 H3 scope ce fp) ([] ++ pinsAt fp s7.heap) H' b := fun hn b hb => ⟨hn b hb, (f11 b hb).2⟩
        have loop1 : codeAny (model X.prog X.w) X.A (.compLoop (.DictComp kx vx [⟨tg, iter, ifs, 0⟩, ⟨tg1, iter1, ifs1, 0⟩] scope pos) 1 (.ref it1) (.ref D) ce)
            (fun r s' => match r with
              | .ok _ => ∃ m, m < n ∧ ∃ i H', Inv (X.blk s3 H3 scope ce fp) [] (wipe σ (own.map (·.2))) H' s' ∧ tn i s'.heap ∧ (∀ b ∈ fp, H' b = none) ∧ W i m H'
              | .error _ => False) s11 := by
          refine compLoop2_inD (fun k s' => ∃ j H', Inv (X.blk s3 H3 scope ce fp) ([] ++ pinsAt fp s7.heap) (wipe σ8 vs1) H' s' ∧ tn1 j s'.heap ∧ (∀ b ∈ fp1, H' b = none) ∧ W1 j k H') ?_ m1 ⟨0, H11, I11.weak (wipe_length _ _) (fun j v e => (wipe_some e).1), st11, fun b hb => (f11 b hb).1, w1⟩
          rintro k s12 ⟨j, H12, I12, st12, n12, w12⟩
          rcases turn1 j k H12 w12 with ⟨stop1, nx1⟩ | ⟨go1, Nx1, hNx1, step1⟩
          · refine thnF (T1.done (X.blk s3 H3 scope ce fp) rfl rfl rfl hc j _ s12 (wipe σ8 vs1) H12 (fun _ _ => False) I12 (stat1 n12) st12 stop1) fun r s13 ⟨hr, I13⟩ => ?_
            subst hr
            exact fin I13 (hl8.trans (wipe_length σ8 vs1).symm) hk9 nx1
          · refine thnF (T1.item (X.blk s3 H3 scope ce fp) rfl rfl rfl hc j _ s12 (wipe σ8 vs1) H12 (fun _ _ => False) I12 (stat1 n12) st12 go1) fun r s13 ⟨u1, hr, h13⟩ => ?_
            subst hr
            refine thnF h13 fun _ s14 ⟨x1, H14, I14, r14, y14, st14, n14⟩ => ?_
            have I14' := I14.pinned (stat1 n14) (T1.obj _ _ st14)
            refine thnF (pg1.run _ s14 (wipe σ8 vs1) H14 x1 u1 _ I14' r14 (step1 x1 H14 y14)) fun _ s15 ⟨σ15, H15, I15, hw15, q15⟩ => ?_
            refine thnF (pt1.run _ s15 σ15 H15 _ I15 q15) fun b1 s16 ⟨H16, I16, q16⟩ => ?_
            have fin1 : ∀ {s' : Shared} {H' : Hp}, Inv (X.blk s3 H3 scope ce fp) (([] ++ pinsAt fp s7.heap) ++ pinsAt fp1 s14.heap) σ15 H' s' → Nx1 H' → ∃ m, m < k ∧ ∃ j H', Inv (X.blk s3 H3 scope ce fp) ([] ++ pinsAt fp s7.heap) (wipe σ8 vs1) H' s' ∧ tn1 j s'.heap ∧ (∀ b ∈ fp1, H' b = none) ∧ W1 j m H' := fun {s' H'} I' nx => by
              obtain ⟨m', hm, w'⟩ := hNx1 H' nx
              have pin' : ∀ b ∈ fp1, ∀ o, s14.heap.get? b = some o → s'.heap.get? b = some o ∧ H' b = none := fun b hb o e =>
                let z := I'.pin (b, o) (List.mem_append_right _ (List.mem_append_right _ (mem_pinsAt hb e)))
                ⟨z.1, z.2.1⟩
              refine ⟨m', hm, j + 1, H', I'.unpinned.weak (by rw [← hw15, wipe_length]) (fun j v e => by rw [← hw15] at e; exact (wipe_some e).1), T1.keep _ _ _ st14 fun b hb o e => (pin' b hb o e).1, fun b hb => ?_, w'⟩
              obtain ⟨o, e, _⟩ := T1.obj _ _ st14 b hb
              exact (pin' b hb o e).2
            cases b1 with
            | false =>
              simp only [Bool.false_eq_true, if_false] at q16 ⊢
              exact fin1 I16 q16
            | true =>
              simp only [if_true] at q16 ⊢
              refine thnF (pk.run _ s16 σ15 H16 _ I16 q16) fun z s17 ⟨yk, H17, I17, r17, q17⟩ => ?_
              refine thnF (pe.run _ s17 σ15 H17 _ I17 q17) fun z2 s18 ⟨yv, H18, I18, r18, kvs, k, bb, ek, hb, hD18, hz18, nx⟩ => ?_
              subst ek
              cases r17
              exact d_dictSetT (X := X.blk s3 H3 scope ce fp) hu0 I18 hD18 hb hz18 r18 fun s19 I19 => fin1 I19 nx
        exact compStart1_okD loop1 (T1.self X.A 0 _ _ _ st11 loop1)
  exact codeAny_compStart_dict loop (T.self X.A 0 _ _ _ st4 loop)
end
section
variable {X : Cx}
theorem pe_dc2 {kx vx tg iter tg1 iter1 : Expr} {ifs ifs1 : List Expr} {scope : Scope} {own : List (Str × Nat)} {vs1 : List Nat} {pos : Pos} {wi wi1 : TI} {g g1 : TG} {tt tt1 : TT} {tk tv : TE} (hu0 : X.A.units < cLine) (hc : X.calm = true) (hN : X.N.Nodup) (hi : PI X tg iter wi) (ok : BlkOk X.N X.env.scope scope own) (hv : ∀ i ∈ vs1, i ∈ own.map (·.2))
    (hg : ∀ (s : Shared) (H : Hp) (C : Addr) (cl : List (Str × Addr)) (fp : List Addr), PG (X.blk s H scope (compEnvC scope cl C X.env) fp) tg g) (ht : ∀ (s : Shared) (H : Hp) (C : Addr) (cl : List (Str × Addr)) (fp : List Addr), PTs (X.blk s H scope (compEnvC scope cl C X.env) fp) ifs tt)
    (hi1 : ∀ (s : Shared) (H : Hp) (C : Addr) (cl : List (Str × Addr)) (fp : List Addr), PI (X.blk s H scope (compEnvC scope cl C X.env) fp) tg1 iter1 wi1)
    (hg1 : ∀ (s : Shared) (H : Hp) (C : Addr) (cl : List (Str × Addr)) (fp : List Addr), PG (X.blk s H scope (compEnvC scope cl C X.env) fp) tg1 g1) (ht1 : ∀ (s : Shared) (H : Hp) (C : Addr) (cl : List (Str × Addr)) (fp : List Addr), PTs (X.blk s H scope (compEnvC scope cl C X.env) fp) ifs1 tt1)
    (hk : ∀ (s : Shared) (H : Hp) (C : Addr) (cl : List (Str × Addr)) (fp : List Addr), PE (X.blk s H scope (compEnvC scope cl C X.env) fp) kx tk)
    (he : ∀ (s : Shared) (H : Hp) (C : Addr) (cl : List (Str × Addr)) (fp : List Addr), PE (X.blk s H scope (compEnvC scope cl C X.env) fp) vx tv) (hs : ∀ x, foldedSetIterable iter X.env x = pure x := by intro _; rfl) (hs1 : ∀ env x, foldedSetIterable iter1 env x = pure x := by intro _ _; rfl) :
    PE X (.DictComp kx vx [⟨tg, iter, ifs, 0⟩, ⟨tg1, iter1, ifs1, 0⟩] scope pos) (tDc2 wi g tt wi1 g1 tt1 tk tv (own.map (·.2)) vs1) := by
  refine ⟨fun pins s σ H Q I h => ?_⟩
  rw [arm_eval_DictComp]
  refine dc2_core hu0 hc hN I hi ok hv hg ht hk he hs hi1 hg1 ht1 hs1 h fun D C s' m H' I' q hn f => ⟨m, hn, fun h'' sb => ?_⟩
  obtain ⟨f0, f1, f2, f3, f4, f5⟩ := f
  exact ⟨.ref D, H', I'.turned (t' := s'.toks) (fun b o hb e => (sb.2 b hb).trans e) f0 f1 f3 f4 f5, rfl, q⟩
end

/-! ### {(r, k): True for r, ks in reads for k in ks} -/
abbrev Reads := List (Int × List Str)
def readD (p : Int × List Str) : D := .tuple [.int p.1, .tuple (p.2.map .str)]
def readsD (rs : Reads) : D := .tuple (rs.map readD)
def addV (acc : List (List Key × V)) (r : Int) (x : Str) : List (List Key × V) := putK acc [.inl r, .inr x] (.bl true)
def addsV (acc : List (List Key × V)) (r : Int) (xs : List Str) : List (List Key × V) := xs.foldl (fun acc x => addV acc r x) acc
def marksV (rs : Reads) : List (List Key × V) := rs.foldl (fun acc p => addsV acc p.1 p.2) []
def addK (acc : List (List Key × D)) (r : Int) (x : Str) : List (List Key × D) := putD acc [.inl r, .inr x] (.bool true)
def addsK (acc : List (List Key × D)) (r : Int) (xs : List Str) : List (List Key × D) := xs.foldl (fun acc x => addK acc r x) acc
def marksK (rs : Reads) : List (List Key × D) := rs.foldl (fun acc p => addsK acc p.1 p.2) []
section
variable {K : PySem.W.Frag} {F : Hp}
theorem kvd_adds (r : Int) : ∀ (xs : List Str) {a : List (List Key × V)} {b : List (List Key × D)}, KVd K F a b → KVd K F (addsV a r xs) (addsK b r xs)
  | [], _, _, h => h
  | x :: xs, _, _, h => kvd_adds r xs (kvd_put h (.bl true))
theorem kvd_marks : ∀ (rs : Reads) {a : List (List Key × V)} {b : List (List Key × D)}, KVd K F a b → KVd K F (rs.foldl (fun acc p => addsV acc p.1 p.2) a) (rs.foldl (fun acc p => addsK acc p.1 p.2) b)
  | [], _, _, h => h
  | p :: rs, _, _, h => kvd_marks rs (kvd_adds p.1 p.2 h)
theorem addsV_len (r : Int) : ∀ (xs : List Str) (a : List (List Key × V)), (addsV a r xs).length ≤ a.length + xs.length
  | [], a => by show a.length ≤ _; simp
  | x :: xs, a => by
    have h := addsV_len r xs (addV a r x)
    have h2 := length_putK a [.inl r, .inr x] (.bl true)
    show (addsV (addV a r x) r xs).length ≤ _
    unfold addV at h ⊢
    rw [List.length_cons]
    omega
def sizeR (rs : Reads) : Nat := (rs.map fun p => p.2.length).sum
theorem marksV_len : ∀ (rs : Reads) (a : List (List Key × V)), (rs.foldl (fun acc p => addsV acc p.1 p.2) a).length ≤ a.length + sizeR rs
  | [], a => by show a.length ≤ _; simp [sizeR]
  | p :: rs, a => by
    have h := marksV_len rs (addsV a p.1 p.2)
    have h2 := addsV_len p.1 p.2 a
    show (rs.foldl (fun acc p => addsV acc p.1 p.2) (addsV a p.1 p.2)).length ≤ _
    have e : sizeR (p :: rs) = p.2.length + sizeR rs := by simp [sizeR]
    omega
end
end AF

set_option Elab.async false
set_option linter.all false
set_option maxRecDepth 100000
set_option maxHeartbeats 4000000
namespace AF
open PySem PySem.Spec PyProof.Rows L2
section
variable {K : PySem.W.Frag} {F : Hp}
theorem dp_strs {v : V} {ks : List Str} (h : Dp K F v (.tuple (ks.map .str))) : ∃ a, v = .ref a ∧ F a = some (.tup (ks.map V.str)) := by
  cases h with
  | tup hs ha =>
    have e := dpa_strs ha
    subst e
    exact ⟨_, rfl, hs⟩
theorem dp_readD {v : V} {p : Int × List Str} (h : Dp K F v (readD p)) : ∃ a q, v = .ref a ∧ F a = some (.tup [.int p.1, .ref q]) ∧ F q = some (.tup (p.2.map V.str)) := by
  unfold readD at h
  cases h with
  | tup hs ha =>
    cases ha with
    | cons h1 ha =>
      cases ha with
      | cons h2 ha =>
        cases ha
        cases h1
        obtain ⟨q, rfl, hq⟩ := dp_strs h2
        exact ⟨_, q, rfl, hs, hq⟩
theorem marksV_take {rs : Reads} {i : Nat} {p : Int × List Str} (h : rs[i]? = some p) : marksV (rs.take (i + 1)) = addsV (marksV (rs.take i)) p.1 p.2 := by
  unfold marksV
  rw [List.take_succ, h, Option.toList_some, List.foldl_append]
  rfl
theorem addsV_take {a : List (List Key × V)} {r : Int} {ks : List Str} {j : Nat} {x : Str} (h : ks[j]? = some x) : addsV a r (ks.take (j + 1)) = addV (addsV a r (ks.take j)) r x := by
  unfold addsV
  rw [List.take_succ, h, Option.toList_some, List.foldl_append]
  rfl
theorem sizeR_take (rs : Reads) (i : Nat) : sizeR (rs.take i) ≤ sizeR rs := by
  have e : sizeR rs = sizeR (rs.take i) + sizeR (rs.drop i) := by
    unfold sizeR
    rw [← List.sum_append, ← List.map_append, List.take_append_drop]
  omega
theorem sizeR_get {rs : Reads} {i : Nat} {p : Int × List Str} (h : rs[i]? = some p) : sizeR (rs.take i) + p.2.length ≤ sizeR rs := by
  have h1 := sizeR_take rs (i + 1)
  have e : sizeR (rs.take (i + 1)) = sizeR (rs.take i) + p.2.length := by
    unfold sizeR
    rw [List.take_succ, h, Option.toList_some, List.map_append, List.sum_append]
    simp
  omega
end
def P_marks_in : PT' := fun ds R => ds.length = 1 ∧ ∃ rs, ds = [readsD rs] ∧ sizeR rs ≤ 1000000 ∧ R (marksK rs)
def t_marks (K : PySem.W.Frag) : TS := tRet (tDc2 (iTup K (tVar 0)) (gTup K 2 (gCons (gName 1) (gCons (gName 2) gNil))) tYes (iTup K (tVar 2)) (gName 3) tYes (tTup (tCons (tVar 1) (tCons (tVar 3) tNil))) (tC (.bl true)) [1, 2, 3] [3])
theorem marks_reads {K : PySem.W.Frag} {vs : List V} {H : Hp} {Q : VK} {E : XK} (h : spT K 1 P_marks_in vs H Q E) : t_marks K { nx := fun _ H' => Q .non H', rt := Q } (L2.start ["reads", "reading", "keys", "key"] vs) H := by
  obtain ⟨hl, F, ds, R, sub, hd, ⟨_, rs, rfl, hsz, hR⟩, hq⟩ := h
  cases hd with
  | cons h1 h2 =>
  cases h2
  unfold readsD at h1
  cases h1 with
  | tup hs ha =>
  rename_i a xs
  refine ⟨.ref a, rfl, a, rfl, ⟨xs, sqT_of (sub _ _ hs)⟩, fun D hD => ⟨fun i m H' => m = rs.length - i ∧ i ≤ rs.length ∧ Same H H' ∧ H' D = some (.dT (marksV (rs.take i))), ⟨rs.length, by simp, Nat.zero_le _, same_upd hD, upd_same⟩, ?_⟩⟩
  have hxl : xs.length = rs.length := by rw [dpa_len ha, List.length_map]
  rintro i m H' ⟨rfl, hi, sm, hdd⟩
  by_cases hlt : i < rs.length
  · have hp : rs[i]? = some rs[i] := List.getElem?_eq_getElem hlt
    generalize rs[i] = p at hp
    obtain ⟨v, hv, hdp⟩ := dpa_get (i := i) (d := readD p) ha (by rw [List.getElem?_map, hp]; rfl)
    obtain ⟨b, q, rfl, hb, hqq⟩ := dp_readD hdp
    refine .inr ⟨⟨xs, .ref b, sqT_of (sm _ _ (sub _ _ hs)), hv⟩, fun H2 => ∃ m', m' < rs.length - i ∧ (m' = rs.length - (i + 1) ∧ i + 1 ≤ rs.length ∧ Same H H2 ∧ H2 D = some (.dT (marksV (rs.take (i + 1))))), fun H2 h => h, fun x H2 y => ?_⟩
    obtain ⟨rfl, y⟩ := y
    have y := y xs (sqT_of (sm _ _ (sub _ _ hs)))
    rw [hv] at y
    cases y
    refine ⟨b, _, rfl, sqT_of (sm _ _ (sub _ _ hb)), rfl, _, _, rfl, _, _, rfl, rfl, rfl, ?_⟩
    unfold tYes
    show (if true = true then _ else _)
    rw [if_pos rfl]
    refine ⟨.ref q, rfl, q, rfl, ⟨_, sqT_of (sm _ _ (sub _ _ hqq))⟩, ?_⟩
    refine ⟨fun j k H3 => k = p.2.length - j ∧ j ≤ p.2.length ∧ Same H H3 ∧ H3 D = some (.dT (addsV (marksV (rs.take i)) p.1 (p.2.take j))), ⟨p.2.length, by simp, Nat.zero_le _, sm, hdd⟩, ?_⟩
    rintro j k H3 ⟨rfl, hj, sm3, hd3⟩
    by_cases hjl : j < p.2.length
    · have hx : p.2[j]? = some p.2[j] := List.getElem?_eq_getElem hjl
      generalize p.2[j] = x at hx
      have hxv : (p.2.map V.str)[j]? = some (.str x) := by rw [List.getElem?_map, hx]; rfl
      refine .inr ⟨⟨_, .str x, sqT_of (sm3 _ _ (sub _ _ hqq)), hxv⟩, fun H4 => ∃ k', k' < p.2.length - j ∧ (k' = p.2.length - (j + 1) ∧ j + 1 ≤ p.2.length ∧ Same H H4 ∧ H4 D = some (.dT (addsV (marksV (rs.take i)) p.1 (p.2.take (j + 1))))), fun H4 h => h, fun x1 H4 y => ?_⟩
      obtain ⟨rfl, y⟩ := y
      have y := y _ (sqT_of (sm3 _ _ (sub _ _ hqq)))
      rw [hxv] at y
      cases y
      refine ⟨rfl, ?_⟩
      show (if true = true then _ else _)
      rw [if_pos rfl]
      refine ⟨.int p.1, rfl, .str x, rfl, by show 2 ≤ sizeLine; decide, fun c hc => ?_⟩
      have hcD : D ≠ c := fun z => by
        rw [← z, hd3] at hc
        cases hc
      have hlen : (addsV (marksV (rs.take i)) p.1 (p.2.take j)).length < sizeLine := by
        have h1 := addsV_len p.1 (p.2.take j) (marksV (rs.take i))
        have h2 := marksV_len (rs.take i) []
        have h3 := sizeR_get hp
        have h4 : (p.2.take j).length ≤ p.2.length := by rw [List.length_take]; omega
        have e : (marksV (rs.take i)).length ≤ 0 + sizeR (rs.take i) := h2
        exact Nat.lt_of_le_of_lt (by omega : _ ≤ 1000000) (by decide)
      refine ⟨_, [.inl p.1, .inr x], c, rfl, upd_same, by rw [upd_ne hcD]; exact hd3, hlen, _, by omega, rfl, hjl, fun b' o' e' => ?_, by rw [addsV_take hx]; exact upd_same⟩
      have n1 : b' ≠ c := ne_of_none (sm3 _ _ e') hc
      have n2 : b' ≠ D := ne_of_none e' hD
      rw [upd_ne n2, upd_ne n1]
      exact sm3 _ _ e'
    · have e : j = p.2.length := by omega
      subst e
      refine .inl ⟨⟨_, sqT_of (sm3 _ _ (sub _ _ hqq)), by rw [List.length_map]; exact Nat.le_refl _⟩, _, by omega, rfl, hlt, sm3, ?_⟩
      rw [marksV_take hp, hd3, List.take_length]
  · have e : i = rs.length := by omega
    subst e
    refine .inl ⟨⟨xs, sqT_of (sm _ _ (sub _ _ hs)), by omega⟩, ?_⟩
    rw [List.take_length] at hdd
    exact hq D F H' _ (marksK rs) hD (Same.refl _) (sub.trans sm) sm (fun b o e => .inl e) (sub.free hD) hdd (kvd_marks rs .nil) hR
theorem has_marks {P : Program} {w : World} {K : PySem.W.Frag} {mg : Str → Option Value} {base : Heap} {st : Stmt} (D : DefAt K mg "marks_in" st) (S : FnScope ["reads", "reading", "keys", "key"] ["reads"] (defScope st))
    (hbi : ∀ {f fd}, FnP K "marks_in" st f fd → Binds K fd ["reads"] [])
    (hb : ∀ (f : Addr) (fd : FuncData) (F : FnP K "marks_in" st f fd) (cdv : Value) (A : Around) (outer : List Env) (s : Shared) (H : Hp) (E : XK), Room 0 (A.deeper (envOfC "marks_in" (defScope st) s.heap.objs.size f cdv)) → PSs (cxOf CX0 P w K mg base ["reads", "reading", "keys", "key"] "marks_in" (defScope st) f cdv A outer s H E).nox (defBody st) (t_marks K)) :
    Has P w K mg base "marks_in" 1 ["reads"] (spT K 1 P_marks_in) := by
  obtain ⟨f, fd, hm, F⟩ := D
  refine ⟨f, fd, hm, F.kp, hbi F, FunD.ok F S (fun vs H Q E h => h.1) fun cdv A outer s H vs Q E hr hsp => ⟨_, (hb f fd F cdv A outer s H E hr).nox, marks_reads hsp⟩⟩
end AF

set_option Elab.async false
set_option linter.all false
set_option maxRecDepth 100000
set_option maxHeartbeats 4000000
/-! dict(pairs) and sorted(dict) where the keys are tuples: as HandS.Dict's dict(pairs) with ints and texts for keys -/
namespace AF
open PySem PySem.Spec PyProof.Rows L2
def mergeT (kvs more : List (List Key × V)) : List (List Key × V) := more.foldl (fun acc kv => putK acc kv.1 kv.2) kvs
theorem mergeT_len : ∀ (more kvs : List (List Key × V)), (mergeT kvs more).length ≤ kvs.length + more.length
  | [], kvs => by show kvs.length ≤ _; simp
  | p :: r, kvs => by
    have h1 := mergeT_len r (putK kvs p.1 p.2)
    have h2 := length_putK kvs p.1 p.2
    show (mergeT (putK kvs p.1 p.2) r).length ≤ _
    rw [List.length_cons]; omega
section
variable {prog : Program} {w : World} {A : Around} {E : Value → Shared → Prop}
theorem hok_but {H : Hp} {h h' : Heap} {c : Addr} (x : HOk prog w H h) (hc : H c = none) (k : ∀ b u, b ≠ c → h.get? b = some u → h'.get? b = some u) : HOk prog w H h' := fun a o e =>
  (x a o e).stay (fun b u hb q => k b u (fun z => by
    rcases hb with hb | hb
    · rw [hb] at z; rw [z] at e; rw [hc] at e; cases e
    · rw [z] at hb; rw [hc] at hb; cases hb) q) (fun _ q => q) fun _ _ q => q
theorem upd_loopT {H : Hp} {R : Result → Shared → Prop} {S I l : Addr} {items : Array Value} {res : Value} (hh : A.handled = none) (hu : A.units + 1 < cLine) (hlI : l ≠ I) (hSI : S ≠ I) (hSl : S ≠ l) (nS : H S = none) (nI : H I = none) :
    ∀ (rest : List (List Key × V)) (i : Nat) (acc : List (List Key × V)) (xs : List (List Key × Addr × Value)) (ix : Int) (t : Tok) (s : Shared), items.size = i + rest.length → acc.length + rest.length ≤ sizeLine →
      (∀ (j : Nat) (q : List Key × V), rest[j]? = some q → ∃ (t b : Addr) (u : Value), items[i + j]? = some (.ref t) ∧ t ≠ S ∧ t ≠ I ∧ IsTup s.heap t #[.ref b, u] ∧ H b = some (.tup (q.1.map kV)) ∧ RelV q.2 u) →
      HOk prog w H s.heap → s.heap.IsListIter I l i → s.heap.IsList l items → KT H acc xs → s.heap.DictOfH (tupleKind (mixKind prog w)) S xs →
      (∀ h' tk xs', KT H (mergeT acc rest) xs' → h'.DictOfH (tupleKind (mixKind prog w)) S xs' → (∀ b o, b ≠ S → b ≠ I → s.heap.get? b = some o → h'.get? b = some o) → R (.ok (.ret res)) { s with heap := h', toks := tk }) →
      codeAny (model prog w) A (.builtin "dict.update.loop" ⟨[.ref S, .ref I, .int ix t, res], []⟩) R s
  | [], i, acc, xs, ix, t, s, hsz, hln, ht, ok, hit, hl, kt, hm, hR => by
    refine codeAny_builtin ud_entry ?_
    rw [Around.under_plainId ud_plain _]
    show wpAny _ A.in1 (pyNext (.ref I) >>= _) _ _ s
    refine wpAny_bind (wpAny_pyNext_list_end (A := A.in1) hh hit hl (by first | exact Array.getElem?_eq_none (Nat.le_of_eq hsz) | (simp at hsz; simp; omega)) fun h' he => ?_)
    show wpAny _ A.in1 (Builtin.Dict.addKeywords S [] >>= _) _ _ _
    refine wpAny_bind (wpAny_pure (wpAny_pure ?_))
    have ok' : HOk prog w H h' := hok_but ok nI fun b u hb q => he b u hb q
    obtain ⟨o, es, ep, g1, g2, g3, g4, g5, g6⟩ := hm
    exact hR h' s.toks xs kt ⟨o, es, ep, he S o hSI g1, g2, g3, g4, fun x hx => (tupIs kt ok' x hx), g6⟩ fun b o _ hb e => he b o hb e
  | q :: rest, i, acc, xs, ix, t, s, hsz, hln, ht, ok, hit, hl, kt, hm, hR => by
    obtain ⟨tt, b, u, hb, hbS, hbI, htup, hk, rv⟩ := ht 0 q rfl
    rw [List.length_cons] at hsz hln
    refine codeAny_builtin ud_entry ?_
    rw [Around.under_plainId ud_plain _]
    show wpAny _ A.in1 (pyNext (.ref I) >>= _) _ _ s
    refine wpAny_bind (wpAny_pyNext_list_item (x := .ref tt) hit hl (by simpa using hb) fun h1 hit1 hs1 => ?_)
    have ht1 : IsTup h1 tt #[.ref b, u] := htup.extBut hs1.extBut hbI
    have hl1 : h1.IsList l items := hl.extBut hs1.extBut hlI
    have ok1 : HOk prog w H h1 := hok_but ok nI fun c v hc z => (hs1.2 c hc).trans z
    have hm1 : h1.DictOfH (tupleKind (mixKind prog w)) S xs := by
      obtain ⟨o, es, ep, g1, g2, g3, g4, g5, g6⟩ := hm
      exact ⟨o, es, ep, (hs1.2 S hSI).trans g1, g2, g3, g4, fun x hx => (tupIs kt ok1 x hx), g6⟩
    obtain ⟨o, ho, hc, n, hd⟩ := id ht1
    show wpAny _ A.in1 (holding [Value.ref tt] _ >>= _) _ _ _
    refine wpAny_bind (wpAny_holding ?_)
    refine wpAny_bind (wpAny_tryCatch ?_)
    unfold Builtin.Dict.pairItems
    refine wpAny_bind (wpAny_typeOf (T := "tuple") ⟨o, ho, hc⟩ ?_)
    rw [if_pos (by first | decide | rfl | simp)]
    refine wpAny_bind (wpAny_seqItems ho hd (wpAny_pure ?_))
    show wpAny _ A.in1 (holding [.ref b, u] (dictSet S (.ref b) u)) _ _ _
    have hxl : xs.length = acc.length := (Paired.length kt).symm
    refine wpAny_holding (wpAny_dictSet_heap (knd := tupleKind (mixKind prog w)) (k := q.1) (tupleKind_room_in1 hu) (key_of ok1 hk) hm1 (fun h2 hm2 hs2 => ?_) (by omega))
    have ok2 : HOk prog w H h2 := hok_but ok1 nS fun c v hc z => (hs2.2 c hc).trans z
    refine wpAny_pure ⟨plainId_quiet ud_plain _, upd_loopT (items := items) hh hu hlI hSI hSl nS nI rest (i + 1) (putK acc q.1 q.2) (storedH xs q.1 b u) (ix + 1) 0 _ (show items.size = i + 1 + rest.length by omega) ?_ (fun j q' e => ?_) ok2 ?_ ?_ (kt.put q.1 hk rv) hm2 fun h' tk xs' kt' hd' k => ?_⟩
    · have z := length_putK acc q.1 q.2
      omega
    · obtain ⟨t', b', u', hb', hbS', hbI', htup', hk', rv'⟩ := ht (j + 1) q' (by simpa using e)
      refine ⟨t', b', u', ?_, hbS', hbI', (htup'.extBut hs1.extBut hbI').extBut hs2.extBut hbS', hk', rv'⟩
      rw [show i + 1 + j = i + (j + 1) by omega]
      exact hb'
    · exact hit1.at fun o' e => hs2.extBut I o' (Ne.symm hSI) e
    · exact hl1.extBut hs2.extBut (Ne.symm hSl)
    · exact hR h' tk xs' kt' hd' fun c oc h3 h4 e => k c oc h3 h4 (hs2.extBut c oc h3 (hs1.extBut c oc h4 e))
where
  tupIs {H : Hp} {h : Heap} {l : List (List Key × V)} {m : List (List Key × Addr × Value)} (q : KT H l m) (ok : HOk prog w H h) : ∀ x ∈ m, (tupleKind (mixKind prog w)).is h x.1 x.2.1 := by
    induction q with
    | nil => intro x hx; exact nomatch hx
    | @cons p q ps qs hq t ih =>
      intro x hx
      rcases List.mem_cons.mp hx with e | hx
      · subst e
        exact key_of ok (by rw [← hq.1]; exact hq.2.1)
      · exact ih x hx
theorem call_dict_pairsT {H : Hp} {s : Shared} {l : Addr} {ol : Obj} {items : Array Value} {n : Nat} {prs : List (List Key × V)} {Q : Value → Shared → Prop} (hh : A.handled = none) (hu : A.units + 20 < cLine) (hl : s.heap.get? l = some ol) (hc : ol.cls = .type "list") (hd : ol.dict = none)
    (hdat : ol.data = .seq items n) (hsz : items.size = prs.length) (hln : prs.length ≤ sizeLine) (ok : HOk prog w H s.heap)
    (ht : ∀ (j : Nat) (q : List Key × V), prs[j]? = some q → ∃ (t b : Addr) (u : Value), items[j]? = some (.ref t) ∧ IsTup s.heap t #[.ref b, u] ∧ H b = some (.tup (q.1.map kV)) ∧ RelV q.2 u)
    (h : ∀ h' tk xs', KT H (mergeT [] prs) xs' → h'.DictOfH (tupleKind (mixKind prog w)) s.heap.objs.size xs' → (∀ b o, s.heap.get? b = some o → h'.get? b = some o) → Q (.ref s.heap.objs.size) { s with heap := h', toks := tk }) :
    wpAny (model prog w) A (call (.type "dict") [.ref l]) Q E s := by
  refine callType_codes (Q₁ := fun obj s₁ => obj = .ref s.heap.objs.size ∧ s₁ = { s with heap := s.heap.push { cls := .type "dict", data := .dict #[] } }) PySem.F.kt_called_dict (PySem.F.kt_typeCall_dict_1 _) PySem.F.entry_dict_init (kt_code_dict_new _ ⟨rfl, rfl⟩) ?_
  rintro obj s₁ ⟨rfl, rfl⟩
  have hnew : (s.heap.push { cls := .type "dict", data := .dict #[] }).DictOf (mixKind prog w) s.heap.objs.size [] := Heap.DictOf.new s.heap
  have hnewT : (s.heap.push { cls := .type "dict", data := .dict #[] }).DictOfH (tupleKind (mixKind prog w)) s.heap.objs.size [] :=
    ⟨_, #[], _, Heap.get?_push_size _ rfl, ⟨rfl, rfl, rfl⟩, rfl, rfl, fun x hx => (by cases hx), List.nodup_nil⟩
  have k0 : ∀ b o, s.heap.get? b = some o → (s.heap.push { cls := .type "dict", data := .dict #[] }).get? b = some o := fun b o e => Heap.get?_push_of_some _ e
  refine ⟨hnew.typeIs, PySem.F.args_dict_init_2 _ _, ?_⟩
  unfold Builtin.«dict.__init__»
  refine wpAny_bind ?_
  unfold Builtin.Dict.selfAndRest
  refine wpAny_bind (wpAny_notOrdered_dict hnew.typeIs ?_)
  show wpAny _ _ (pure (s.heap.objs.size, [Value.ref l])) _ _ _
  refine wpAny_pure ?_
  show wpAny _ _ (Builtin.Dict.updateFrom "dict.__init__" s.heap.objs.size (.ref l) [] .none) _ _ _
  unfold Builtin.Dict.updateFrom
  refine wpAny_bind (wpAny_typeOf (T := "list") ⟨ol, k0 _ _ hl, hc⟩ ?_)
  rw [if_pos (by first | decide | rfl | simp)]
  refine wpAny_bind (miss_list (k0 _ _ hl) hc hdat hd hh fun h1 tk1 hk1 => ?_)
  rw [if_pos (show (none : Option Value).isNone = true from rfl)]
  refine wpAny_bind (wpAny_rule ?_)
  have hl1 : h1.IsList l items := ⟨ol, hk1 _ _ (k0 _ _ hl), hc, n, hdat⟩
  have hS1 : s.heap.objs.size < h1.objs.size := by
    have e : (s.heap.push { cls := .type "dict", data := .dict #[] }).get? s.heap.objs.size = some { cls := .type "dict", data := .dict #[] } := Heap.get?_push_size _ rfl
    exact Heap.lt_size (hk1 _ _ e)
  refine wpAny_bind (wpAny_pyIter_list hl1 ?_)
  have k2 : ∀ b o, h1.get? b = some o → (h1.push { cls := .type "list_iterator", data := .fields #[.ref l, .int 0 0] }).get? b = some o := fun b o e => Heap.get?_push_of_some _ e
  have hlt : l < s.heap.objs.size := Heap.lt_size hl
  have nS : H s.heap.objs.size = none := ok.fresh (Nat.le_refl _)
  have nI : H h1.objs.size = none := ok.fresh (Nat.le_of_lt hS1)
  have ok2 : HOk prog w H (h1.push { cls := .type "list_iterator", data := .fields #[.ref l, .int 0 0] }) := ok.kept fun b o e => k2 _ _ (hk1 _ _ (k0 _ _ e))
  have hnew2 : (h1.push { cls := .type "list_iterator", data := .fields #[.ref l, .int 0 0] }).DictOfH (tupleKind (mixKind prog w)) s.heap.objs.size [] := by
    obtain ⟨o, es, ep, g1, g2, g3, g4, g5, g6⟩ := hnewT
    exact ⟨o, es, ep, k2 _ _ (hk1 _ _ g1), g2, g3, g4, fun x hx => (by cases hx), g6⟩
  have key := upd_loopT (prog := prog) (w := w) (A := A.in1) (H := H) (R := wants (fun r s₂ => r = .none ∧ Q (.ref s.heap.objs.size) s₂) E) (S := s.heap.objs.size) (I := h1.objs.size) (l := l) (items := items) (res := Value.none) hh (show A.in1.units + 1 < cLine by show A.units + 1 + 1 < cLine; omega)
    (Nat.ne_of_lt (Nat.lt_trans hlt hS1)) (Nat.ne_of_lt hS1) (Nat.ne_of_gt hlt) nS nI prs 0 [] [] 0 0
    { s with heap := h1.push { cls := .type "list_iterator", data := .fields #[.ref l, .int 0 0] }, toks := tk1 } (by rw [hsz, Nat.zero_add]) (by rw [List.length_nil, Nat.zero_add]; exact hln)
    (fun j q e => by
      obtain ⟨t, b, u, e1, e2, e3, e4⟩ := ht j q e
      have hb : t < s.heap.objs.size := e2.lt
      exact ⟨t, b, u, by rw [Nat.zero_add]; exact e1, Nat.ne_of_lt hb, Nat.ne_of_lt (Nat.lt_trans hb hS1), e2.keeps fun c o z => k2 _ _ (hk1 _ _ (k0 _ _ z)), e3, e4⟩) ok2
    ⟨_, Heap.get?_push_size _ rfl, rfl, rfl⟩ (hl1.at fun o e => k2 _ _ e) .nil hnew2
    (fun h' tk xs' kt' hd' k => ⟨rfl, h h' tk xs' kt' hd' fun b o e => k b o (Nat.ne_of_lt (Heap.lt_size e)) (Nat.ne_of_lt (Nat.lt_trans (Heap.lt_size e) hS1)) (k2 _ _ (hk1 _ _ (k0 _ _ e)))⟩)
  first
    | exact wpAny_pure ⟨plainId_quiet ud_plain _, key⟩
    | exact wpAny_bind (wpAny_pure (wpAny_pure ⟨plainId_quiet ud_plain _, key⟩))
end
section
variable {X : Cx} {K : PySem.W.Frag} {pos p2 p3 p : Pos} {e : Expr} {es : List Expr}
/-- the dict at a, its entries known with the keys' own tuples -/
def DictIs (P : Program) (w : World) (a : Addr) (xs : List (List Key × Addr × Value)) : Heap → Prop := fun h =>
  ∃ o es ep, h.get? a = some o ∧ o.ExactDict ∧ o.data = .dict es ep ∧ es.toList = xs.map (entryOfKey (tupleKind (mixKind P w))) ∧ (xs.map (·.1)).Nodup
theorem dictIs_ok {P : Program} {w : World} {H : Hp} {h : Heap} {a : Addr} {xs : List (List Key × Addr × Value)} (d : DictIs P w a xs h) : ObjOk P w H h a (.ext (DictIs P w a xs)) := by
  obtain ⟨o, es, ep, g1, g⟩ := id d
  exact ⟨d, ⟨o, g1⟩, fun h1 h2 ⟨o, es, ep, q1, q⟩ k => ⟨o, es, ep, k o q1, q⟩⟩
/-- tuples alone -/
def TupsOf (Ft H : Hp) : Prop := ∀ b o, Ft b = some o → H b = some o ∧ ∃ xs, o = .tup xs
theorem tupsOf_ok {P : Program} {w : World} {Ft H : Hp} {h : Heap} (t : TupsOf Ft H) (ok : HOk P w H h) : HOk P w Ft h := fun a o e => by
  obtain ⟨e1, xs, rfl⟩ := t a o e
  exact ok a _ e1
def rDictT (X : Cx) : List V → Hp → VK → Prop := fun vs H Q => ∃ (Ft : Hp) (a : Addr) (ps : List Addr) (kvs : List (List Key × V)), vs = [.ref a] ∧ H a = some (.lst (ps.map V.ref)) ∧ TupsOf Ft H ∧
  Paired (fun p kv => ∃ b, H p = some (.tup [.ref b, kv.2]) ∧ Ft b = some (.tup (kv.1.map kV))) ps kvs ∧
  ∀ p xs, KT Ft (mergeT [] kvs) xs → (p == sysModules) = false → (mergeT [] kvs).length ≤ sizeLine → H p = none → Q (.ref p) (upd H p (.ext (DictIs X.prog X.w p xs)))
theorem call_dictT (hcalm : X.calm = true) (hu : X.A.units + 20 < cLine) : CallR X (.type "dict") (rDictT X) := by
  intro pins s σ H xs us Q I r h
  obtain ⟨Ft, a, ps, kvs, rfl, ha, tu, hp, q⟩ := h
  obtain ⟨u, rfl, rx⟩ := vals1 r
  cases rx
  obtain ⟨hz, its, n, rv, ho⟩ := I.hok _ _ ha
  have el : its = ps.map Value.ref := refs_at rv
  subst el
  have hpl : ps.length = kvs.length := Paired.length hp
  refine call_dict_pairsT (H := Ft) (I.ok.hd hcalm) hu ho rfl rfl rfl (by rw [List.size_toArray, List.length_map]; exact hpl) (by rw [← hpl]; rw [List.length_map] at hz; exact hz) (tupsOf_ok tu I.hok) (fun j kv e => ?_) fun h' tk xs' kt hd' k => ?_
  · obtain ⟨p, ep, b, h1, h2⟩ : ∃ p, ps[j]? = some p ∧ ∃ b, H p = some (.tup [.ref b, kv.2]) ∧ Ft b = some (.tup (kv.1.map kV)) := by
      clear hpl hz ha rv ho q
      induction hp generalizing j with
      | nil => cases e
      | @cons p kv' ps kvs h t ih =>
        cases j with
        | zero => cases Option.some.inj e; exact ⟨p, rfl, h⟩
        | succ j => exact ih j (by simpa using e)
    obtain ⟨_, its2, rv2, ht⟩ := I.hok _ _ h1
    obtain ⟨u1, u2, rfl, r1, r2⟩ := vals2 rv2
    cases r1
    exact ⟨p, b, u2, by rw [List.getElem?_toArray, List.getElem?_map, ep]; rfl, ht, h2, r2⟩
  · have hm : (s.heap.objs.size == sysModules) = false := beq_eq_false_iff_ne.mpr (Nat.ne_of_gt I.big)
    have hlen : (mergeT [] kvs).length ≤ sizeLine := by
      refine Nat.le_trans (mergeT_len kvs []) ?_
      rw [List.length_nil, Nat.zero_add, ← hpl]
      rw [List.length_map] at hz
      exact hz
    have hn : H s.heap.objs.size = none := I.hok.fresh (Nat.le_refl _)
    obtain ⟨o, ees, ep, g1, g2, g3, g4, g5, g6⟩ := hd'
    exact ⟨.ref s.heap.objs.size, upd H s.heap.objs.size (.ext (DictIs X.prog X.w s.heap.objs.size xs')), I.laid (t' := tk) k (Nat.le_refl _) (dictIs_ok ⟨o, ees, ep, g1, g2, g3, g4, g6⟩), rfl, q _ _ kt hm hlen hn⟩
/-- sorted(d), the keys pairs of an int and a text -/
def keyIS (p : IS) : List Key := [.inl p.1, .inr p.2]
def rSortDT (X : Cx) : List V → Hp → VK → Prop := fun vs H Q => ∃ (Ft : Hp) (d : Addr) (kvs : List (List Key × V)) (ks : List (List Key × Addr × Value)) (ps : List IS), vs = [.ref d] ∧ H d = some (.ext (DictIs X.prog X.w d ks)) ∧ TupsOf Ft H ∧ KT Ft kvs ks ∧ (d == sysModules) = false ∧ kvs.length ≤ sizeLine ∧ kvs.map (·.1) = ps.map keyIS ∧
  ∀ (ys : List V) (p : Addr), (∀ y ∈ ys, ∃ t, y = V.ref t ∧ Ft t = some (.tup [.int (isAt Ft y).1, .str (isAt Ft y).2])) → (ys.map (isAt Ft)).Perm ps → ys.Pairwise (fun x y => ltIS (isAt Ft y) (isAt Ft x) = false) → H p = none → Q (.ref p) (upd H p (.lst ys))
theorem cr_sortDT (hc : X.calm = true) : CallR X (.builtin "sorted") (rSortDT X) := by
  intro pins s σ H xs us Q I r h
  obtain ⟨Ft, d, kvs, ks, ps, rfl, hd, tu, pr, hs, z, hk, q⟩ := h
  obtain ⟨u, rfl, rx⟩ := r.one
  cases rx
  obtain ⟨⟨o, es, ep, ho, hx, hdt, he, hn⟩, _⟩ := (show ObjOk X.prog X.w H s.heap d (.ext (DictIs X.prog X.w d ks)) from I.hok d _ hd)
  have l1 : es.size = ks.length := size_of_entries he
  have l2 : kvs.length = ks.length := Paired.length pr
  have bk := isKeys_of pr
  generalize hbs : (ks.map fun x => x.2.1) = bs at bk
  -- the keys' tuples
  have hall : (∀ y ∈ bs.map V.ref, ∃ t, y = V.ref t ∧ Ft t = some (.tup [.int (isAt Ft y).1, .str (isAt Ft y).2])) ∧ (bs.map V.ref).map (isAt Ft) = ps := by
    clear hbs pr he l1 l2 hd z q
    induction bk generalizing ps with
    | nil =>
      have : ps = [] := by
        cases ps with
        | nil => rfl
        | cons p ps => cases hk
      subst this
      exact ⟨fun y hy => (by cases hy), rfl⟩
    | @cons kv b kvs bs h t ih =>
      cases ps with
      | nil => cases hk
      | cons p ps =>
        rw [List.map_cons, List.map_cons] at hk
        injection hk with h1 h2
        obtain ⟨g1, g2⟩ := ih ps h2
        rw [h1] at h
        have ha : isAt Ft (.ref b) = p := isAt_of h
        refine ⟨fun y hy => ?_, by rw [List.map_cons, List.map_cons, ha, g2]⟩
        rcases List.mem_cons.mp hy with e | hy
        · subst e; exact ⟨b, rfl, by rw [ha]; exact h⟩
        · exact g1 y hy
  obtain ⟨hx1, hx2⟩ := hall
  have hbl : bs.length = ks.length := by rw [← hbs, List.length_map]
  have rv : Vals (bs.map V.ref) (bs.map Value.ref) := vals_refs bs
  have his : ∀ v ∈ bs.map Value.ref, SrtO.IsIS s.heap v (isAt Ft (backV v)) := fun v hv => by
    obtain ⟨t, ht, rfl⟩ := List.mem_map.mp hv
    obtain ⟨t', e, ht'⟩ := hx1 (.ref t) (List.mem_map.mpr ⟨t, ht, rfl⟩)
    cases e
    obtain ⟨_, its2, r2, o, ho, hc, n, hd⟩ := I.hok _ _ (tu _ _ ht').1
    obtain ⟨u1, u2, rfl, ri, rj⟩ := vals2 r2
    obtain ⟨t1, rfl⟩ := ri
    obtain ⟨t2, rfl⟩ := rj
    exact ⟨t, o, t1, t2, n, rfl, ho, hc, hd⟩
  refine SrtO.sorted_gen (vs := bs.map Value.ref) (ltv := fun v u => ltIS (isAt Ft (backV v)) (isAt Ft (backV u))) (SrtO.swo_isk _) (by rw [List.length_map, hbl, ← l2]; exact z) (fun Q' kq => ?_) (fun h2 h₁ tk a ha kk => ?_) fun g1 h' tk dd out h1 h2 kp0 kp hdd hnn => ?_
  · refine PySem.W.kdu_collect (kdl_raw hs hx hdt) (I.ok.hd hc) ho (by omega) fun h' tk acc kp it => ?_
    have ea : acc.toList = bs.map Value.ref := by
      rw [← hbs, List.map_map]
      have hl : acc.toList.length = ks.length := by rw [Array.length_toList, it.1]; exact l1
      apply List.ext_getElem?
      intro j
      rw [List.getElem?_map]
      cases hj : acc.toList[j]? with
      | none =>
        have h1 := List.getElem?_eq_none_iff.mp hj
        rw [List.getElem?_eq_none (by omega)]
        all_goals rfl
      | some v =>
        obtain ⟨en, hen, hv⟩ := it.2 j v (by rw [← Array.getElem?_toList]; exact hj)
        have qe := entry_at he j
        rw [hen] at qe
        cases hb : ks[j]? with
        | none =>
          rw [hb] at qe
          exact nomatch (show some en = none from qe)
        | some b =>
          rw [hb] at qe
          have e2 : en = entryOfKey (tupleKind (mixKind X.prog X.w)) b := Option.some.inj qe
          rw [hv, e2]
          all_goals rfl
    rw [ea]
    exact kq h' tk kp
  · refine SrtO.is_sortable (s := { s with heap := h₁, toks := tk }) (by omega) (fun v hm => (his v hm).keeps fun b o e _ => (kk b o e).2) fun o e => ?_
    have e' : some o = some (seqObj "list" (bs.map Value.ref).toArray 0) := e.symm.trans ha
    cases e'
    intro c
    exact absurd (Value.type.inj c) (by decide)
  · obtain ⟨n, hnn⟩ := hnn
    have h3 : ∀ u ∈ out, ∃ a, u = Value.ref a := fun u hu => by
      obtain ⟨t, _, rfl⟩ := List.mem_map.mp (h2.perm.mem_iff.mp hu)
      exact ⟨t, rfl⟩
    have I1 : Inv X pins σ H { s with heap := g1 } := I.kept (t' := s.toks) kp0
    have eb : (bs.map Value.ref).map backV = bs.map V.ref := by rw [List.map_map]; rfl
    have hp : (out.map backV).Perm (bs.map V.ref) := by
      rw [← eb]
      exact h2.perm.map backV
    refine ⟨.ref dd, upd H dd (.lst (out.map backV)), I1.laid (t' := tk) kp hdd ⟨?_, out, n, vals_back h3, hnn⟩, rfl, q _ dd (fun y hy => hx1 y (hp.mem_iff.mp hy)) ?_ (List.pairwise_map.mpr h1) (I1.hok.fresh hdd)⟩
    · rw [hp.length_eq, List.length_map, hbl, ← l2]
      exact z
    · rw [← hx2]; exact hp.map _
end
end AF

set_option Elab.async false
set_option linter.all false
set_option maxRecDepth 100000
set_option maxHeartbeats 4000000
namespace AF
open PySem PySem.Spec PyProof.Rows L2
/-! ### sorted(dict(l)) as data -/
def onceIS (acc ps : List IS) : List IS := ps.foldl (fun acc p => if (acc.any fun x => decide (x = p)) = true then acc else acc ++ [p]) acc
theorem onceIS_spec : ∀ (ps acc : List IS), acc.Nodup → (onceIS acc ps).Nodup ∧ ∀ x, x ∈ onceIS acc ps ↔ x ∈ acc ∨ x ∈ ps
  | [], acc, h => ⟨h, fun x => by show x ∈ acc ↔ _; simp⟩
  | p :: ps, acc, h => by
    show (onceIS (if (acc.any fun x => decide (x = p)) = true then acc else acc ++ [p]) ps).Nodup ∧ ∀ x, x ∈ onceIS (if (acc.any fun x => decide (x = p)) = true then acc else acc ++ [p]) ps ↔ _
    by_cases hp : (acc.any fun x => decide (x = p)) = true
    · rw [if_pos hp]
      obtain ⟨g1, g2⟩ := onceIS_spec ps acc h
      refine ⟨g1, fun x => ?_⟩
      obtain ⟨y, hy, e⟩ := List.any_eq_true.mp hp
      have e := of_decide_eq_true e
      subst e
      rw [g2, List.mem_cons]
      constructor
      · rintro (z | z)
        · exact .inl z
        · exact .inr (.inr z)
      · rintro (z | rfl | z)
        · exact .inl z
        · exact .inl hy
        · exact .inr z
    · rw [if_neg hp]
      have hn : p ∉ acc := fun hm => hp (List.any_eq_true.mpr ⟨p, hm, decide_eq_true rfl⟩)
      have hnd : (acc ++ [p]).Nodup := List.nodup_append.mpr ⟨h, List.nodup_cons.mpr ⟨List.not_mem_nil, List.nodup_nil⟩, fun a ha b hb => by
        rw [List.mem_singleton.mp hb]
        exact fun z => hn (z ▸ ha)⟩
      obtain ⟨g1, g2⟩ := onceIS_spec ps (acc ++ [p]) hnd
      refine ⟨g1, fun x => ?_⟩
      rw [g2, List.mem_append, List.mem_singleton, List.mem_cons]
      constructor
      · rintro ((z | z) | z)
        · exact .inl z
        · exact .inr (.inl z)
        · exact .inr (.inr z)
      · rintro (z | z | z)
        · exact .inl (.inl z)
        · exact .inl (.inr z)
        · exact .inr z
theorem keyIS_inj {p q : IS} (h : keyIS p = keyIS q) : p = q := by
  unfold keyIS at h
  injection h with h1 h2
  injection h2 with h2 _
  exact Prod.ext (Sum.inl.inj h1) (Sum.inr.inj h2)
theorem putK_keysT (kvs : List (List Key × V)) (k : List Key) (v : V) : (putK kvs k v).map (·.1) = if (kvs.any fun kv => decide (kv.1 = k)) = true then kvs.map (·.1) else kvs.map (·.1) ++ [k] := by
  unfold putK
  by_cases h : (kvs.any fun kv => decide (kv.1 = k)) = true
  · rw [if_pos h, if_pos h, List.map_map]
    apply List.map_congr_left
    intro p _
    show (if p.1 = k then (p.1, v) else p).1 = p.1
    split <;> rfl
  · rw [if_neg h, if_neg h, List.map_append]
    rfl
theorem mergeT_keys : ∀ (ps : List IS) (kvs : List (List Key × V)) (acc : List IS), kvs.map (·.1) = acc.map keyIS → (mergeT kvs (ps.map fun p => (keyIS p, V.bl true))).map (·.1) = (onceIS acc ps).map keyIS
  | [], kvs, acc, h => h
  | p :: ps, kvs, acc, h => by
    refine mergeT_keys ps (putK kvs (keyIS p) (.bl true)) (if (acc.any fun x => decide (x = p)) = true then acc else acc ++ [p]) ?_
    rw [putK_keysT]
    have e : (kvs.any fun kv => decide (kv.1 = keyIS p)) = (acc.any fun x => decide (x = p)) := by
      have e1 : (kvs.any fun kv => decide (kv.1 = keyIS p)) = ((kvs.map (·.1)).any fun k => decide (k = keyIS p)) := by rw [List.any_map]; rfl
      rw [e1, h, List.any_map]
      congr 1
      funext x
      show decide (keyIS x = keyIS p) = decide (x = p)
      by_cases hx : x = p
      · subst hx; simp
      · rw [decide_eq_false hx, decide_eq_false fun z => hx (keyIS_inj z)]
    rw [e]
    by_cases hp : (acc.any fun x => decide (x = p)) = true
    · rw [if_pos hp, if_pos hp]; exact h
    · rw [if_neg hp, if_neg hp, h, List.map_append]; rfl
section
variable {X : Cx} {K : PySem.W.Frag} {pos pos2 p2 p3 p : Pos} {e : Expr} {es : List Expr}
def pairTrue (p : IS) : D := .tuple [pD p, .bool true]
def wSortDict (w : WE) : WE := fun E Q => w E fun x E1 => onD x fun d => ∃ ps : List IS, d = .list (ps.map pairTrue) ∧ ∀ qs : List IS, qs.Nodup → (∀ x, x ∈ qs ↔ x ∈ ps) → SortedIS qs → Q (.d (.list (qs.map pD))) E1
theorem dp_pairTrue {F : Hp} {v : V} {q : IS} (h : Dp K F v (pairTrue q)) : ∃ a b, v = .ref a ∧ F a = some (.tup [.ref b, .bl true]) ∧ F b = some (.tup [.int q.1, .str q.2]) := by
  unfold pairTrue at h
  cases h with
  | tup hs ha =>
    cases ha with
    | cons h1 ha =>
      cases ha with
      | cons h2 ha =>
        cases ha
        cases h2
        obtain ⟨b, rfl, hb⟩ := dp_pD h1
        exact ⟨_, b, rfl, hs, hb⟩
theorem dpa_pairTrue {F : Hp} : ∀ {ps : List IS} {xs : List V}, DpAll K F xs (ps.map pairTrue) → ∃ as : List Addr, xs = as.map V.ref ∧ Paired (fun (p : Addr) (kv : List Key × V) => ∃ b, F p = some (.tup [.ref b, kv.2]) ∧ F b = some (.tup (kv.1.map kV))) as (ps.map fun q => (keyIS q, V.bl true))
  | [], _, h => by cases h; exact ⟨[], rfl, .nil⟩
  | q :: ps, _, h => by
    cases h with
    | cons h1 h2 =>
      obtain ⟨a, b, rfl, ha, hb⟩ := dp_pairTrue h1
      obtain ⟨as, rfl, t⟩ := dpa_pairTrue h2
      exact ⟨a :: as, rfl, .cons ⟨b, ha, hb⟩ t⟩
theorem isAt_tups {F Ft : Hp} (h : ∀ b o, Ft b = some o → F b = some o) {y : V} {t : Addr} (e : y = .ref t) (ht : Ft t = some (.tup [.int (isAt Ft y).1, .str (isAt Ft y).2])) : isAt F y = isAt Ft y ∧ F t = some (.tup [.int (isAt F y).1, .str (isAt F y).2]) := by
  have h1 := h _ _ ht
  have e1 : isAt F (.ref t) = isAt Ft y := isAt_of h1
  rw [← e] at e1
  exact ⟨e1, by rw [e1]; exact h1⟩
theorem pu_sortDict {w : WE} (ha : PU X e w) (hu : X.A.units + 20 < cLine) (hm : X.mg "sorted" = none) (hm2 : X.mg "dict" = none) (hc : X.calm = true := by rfl) (hg : Gl X "sorted" := by rfl) (hg2 : Gl X "dict" := by rfl)
    (he : starEach [e] X.env = (false, eval e X.env) :: starEach [] X.env := by rfl) (hpl : (backTo pos2 (starEach [] X.env)).any (·.1) = false := by rfl)
    (he2 : starEach [.Call (.Name "dict" p2) [e] [] pos2] X.env = (false, eval (.Call (.Name "dict" p2) [e] [] pos2) X.env) :: starEach [] X.env := by rfl) (hpl2 : (backTo pos (starEach [] X.env)).any (·.1) = false := by rfl) :
    PU X (.Call (.Name "sorted" p) [.Call (.Name "dict" p2) [e] [] pos2] [] pos) (wSortDict w) := by
  obtain ⟨t, pt, st⟩ := ha.ex
  have inner : PE X (.Call (.Name "dict" p2) [e] [] pos2) (tCB (rDictT X) (tCons t tNil)) := pe_callTy (call_dictT hc hu) hg2 hm2 bb_dict (pa_cons pt pa_nil he) (by decide) (by decide) he hpl
  refine ⟨_, pe_callB (cr_sortDT hc) hg hm bb_sorted (pa_cons inner pa_nil he2) (by decide) (by decide) he2 hpl2, fun σ F H E Qd Q I q k => ?_⟩
  refine st σ F H E _ _ I q fun v F1 H1 E1 x I1 X1 r q1 => ?_
  obtain ⟨d, rfl, ps, rfl, q2⟩ := onD_of q1
  have r : Dp X.K F1 v (.list (ps.map pairTrue)) := r
  cases r with
  | lst hs hd =>
  rename_i a xs
  obtain ⟨as, rfl, hp⟩ := dpa_pairTrue hd
  -- the tuples of F1
  let Ft : Hp := fun b => match F1 b with
    | some (.tup ys) => some (.tup ys)
    | _ => none
  have hFt : ∀ b ys, F1 b = some (.tup ys) → Ft b = some (.tup ys) := fun b ys h => by
    show (match F1 b with
      | some (.tup ys) => some (HO.tup ys)
      | _ => none) = _
    rw [h]
  have hFt' : ∀ b o, Ft b = some o → F1 b = some o ∧ ∃ xs, o = .tup xs := fun b o h => by
    have h : (match F1 b with
      | some (.tup ys) => some (HO.tup ys)
      | _ => none) = some o := h
    cases z : F1 b with
    | none => rw [z] at h; cases h
    | some u =>
      rw [z] at h
      cases u <;> first | (cases Option.some.inj h; exact ⟨rfl, _, rfl⟩) | cases h
  have tu : TupsOf Ft H1 := fun b o h => ⟨I1.sub _ _ (hFt' b o h).1, (hFt' b o h).2⟩
  refine ⟨Ft, a, as, ps.map fun q => (keyIS q, V.bl true), rfl, I1.sub _ _ hs, tu, Paired.mapP hp fun p kv ⟨b, h1, h2⟩ => ⟨b, I1.sub _ _ h1, hFt _ _ h2⟩, fun p ks kt hp0 hl hn => ?_⟩
  have tu2 : TupsOf Ft (upd H1 p (.ext (DictIs X.prog X.w p ks))) := fun b o h => by
    obtain ⟨g1, g2⟩ := tu b o h
    exact ⟨by rw [upd_ne (ne_of_none g1 hn)]; exact g1, g2⟩
  refine ⟨Ft, p, _, ks, onceIS [] ps, rfl, upd_same, tu2, kt, hp0, hl, mergeT_keys ps [] [] rfl, fun ys c hy hperm hsrt hcn => ?_⟩
  obtain ⟨o1, o2⟩ := onceIS_spec ps [] List.nodup_nil
  have I2 : EnvD X.K F1 (upd H1 p (.ext (DictIs X.prog X.w p ks))) σ E1 := I1.push hn
  have X2 : Ext F1 H1 F1 (upd H1 p (.ext (DictIs X.prog X.w p ks))) σ E1 E1 := Ext.push hn
  have hyF : ∀ y ∈ ys, isAt F1 y = isAt Ft y ∧ ∃ t, y = V.ref t ∧ F1 t = some (.tup [.int (isAt F1 y).1, .str (isAt F1 y).2]) := fun y hm => by
    obtain ⟨t, e, ht⟩ := hy y hm
    obtain ⟨g1, g2⟩ := isAt_tups (fun b o h => (hFt' b o h).1) e ht
    exact ⟨g1, t, e, g2⟩
  have emap : ys.map (isAt F1) = ys.map (isAt Ft) := List.map_congr_left fun y hm => (hyF y hm).1
  have hdd := is_dpa (K := X.K) fun y hm => (hyF y hm).2
  refine fin_lst I2 hdd (fun v F' H' I' X' r' => k v F' H' E1 (.d (.list ((ys.map (isAt F1)).map pD))) I' ((X1.trans X2).trans X') r' (q2 _ ?_ (fun x => ?_) ?_)) c hcn
  · rw [emap]; exact hperm.nodup_iff.mpr o1
  · rw [emap, hperm.mem_iff, o2]
    simp
  · rw [emap]; exact List.pairwise_map.mpr hsrt
end
end AF

set_option Elab.async false
set_option linter.all false
set_option maxRecDepth 100000
set_option maxHeartbeats 4000000
namespace AF
open PySem PySem.Spec PyProof.Rows L2
section
variable {X : Cx} {K : PySem.W.Frag} {pos pos2 p2 p3 p : Pos} {e a b : Expr} {es : List Expr}
/-! ### in, not in, as tests -/
theorem put_in {w : WE} {y : Str} {py : Pos} (i : Nat) (h : PU X e w) (hu : X.A.units + 1 < cLine) (hN : X.N[i]? = some y := by rfl) (hv : Vis X.env.scope y := by first | exact Or.inl rfl | exact Or.inr (Or.inl rfl) | exact Or.inr (Or.inr rfl)) (hd : (y == ("__debug__" : Str)) = false := by decide)
    (hcd : (y == ("__classdict__" : Str)) = false := by decide) (hm : behindInMarks .In (.Name y py) = false := by rfl) : PUT X (.Compare e [.In] [.Name y py] pos) (wB (wIn false i w)) := by
  obtain ⟨t, p, s⟩ := h.ex
  refine ⟨_, pt_cmp (pc_din hu p (pe_var hN hv hd hcd)) hm, sndT_test fun σ F H E Qd Q I q k => ?_⟩
  refine s σ F H E _ _ I q fun v F1 H1 E1 u I1 X1 r1 q1 => ?_
  obtain ⟨d, rfl, q2⟩ := onD_of q1
  obtain ⟨kk, ek, q3⟩ := onO_of q2
  obtain ⟨kvs, e1, q4⟩ := onOd_of q3
  obtain ⟨c, xs, hc, hF, hH, hkv⟩ := I1.od e1
  refine ⟨.ref c, hc, c, _, rfl, dget_of hH r1 ek, ?_⟩
  have e : (valV xs kk).isSome = (getD kvs kk).isSome := by
    rcases kvd_get (k := kk) hkv with ⟨v, d, g1, g2, _⟩ | ⟨g1, g2⟩ <;> rw [g1, g2] <;> rfl
  rw [e]
  exact k _ F1 H1 E1 (.d (.bool _)) I1 X1 (Dp.bl _) q4
theorem put_notin {w : WE} {y : Str} {py : Pos} (i : Nat) (h : PU X e w) (hu : X.A.units + 1 < cLine) (hN : X.N[i]? = some y := by rfl) (hv : Vis X.env.scope y := by first | exact Or.inl rfl | exact Or.inr (Or.inl rfl) | exact Or.inr (Or.inr rfl)) (hd : (y == ("__debug__" : Str)) = false := by decide)
    (hcd : (y == ("__classdict__" : Str)) = false := by decide) (hm : behindInMarks .NotIn (.Name y py) = false := by rfl) : PUT X (.Compare e [.NotIn] [.Name y py] pos) (wB (wIn true i w)) := by
  obtain ⟨t, p, s⟩ := h.ex
  refine ⟨_, pt_cmp (pc_dnotin hu p (pe_var hN hv hd hcd)) hm, sndT_test fun σ F H E Qd Q I q k => ?_⟩
  refine s σ F H E _ _ I q fun v F1 H1 E1 u I1 X1 r1 q1 => ?_
  obtain ⟨d, rfl, q2⟩ := onD_of q1
  obtain ⟨kk, ek, q3⟩ := onO_of q2
  obtain ⟨kvs, e1, q4⟩ := onOd_of q3
  obtain ⟨c, xs, hc, hF, hH, hkv⟩ := I1.od e1
  refine ⟨.ref c, hc, c, _, rfl, dget_of hH r1 ek, ?_⟩
  have e : (valV xs kk).isSome = (getD kvs kk).isSome := by
    rcases kvd_get (k := kk) hkv with ⟨v, d, g1, g2, _⟩ | ⟨g1, g2⟩ <;> rw [g1, g2] <;> rfl
  rw [e]
  exact k _ F1 H1 E1 (.d (.bool _)) I1 X1 (Dp.bl _) q4

/-! ### a, b = x, y by the tuple (a name that a block captures) -/
theorem VOk.push {F' H' H : Hp} {v : V} {s : Sl} {q : Addr} {o : HO} (hq : H' q = none) (h : VOk K F' H' H v s) : VOk K F' (upd H' q o) H v s := by
  have kp : Same H' (upd H' q o) := same_upd hq
  refine ⟨?_, fun o' => ?_⟩
  · have h := h.at_
    cases s with
    | no => exact True.intro
    | fz d => exact h
    | ol ds => obtain ⟨a, xs, e, h1, h2, r⟩ := h; exact ⟨a, xs, e, h1, kp _ _ h2, r⟩
    | od ds => obtain ⟨a, xs, e, h1, h2, r⟩ := h; exact ⟨a, xs, e, h1, kp _ _ h2, r⟩
    | ot ds => obtain ⟨a, xs, e, h1, h2, r⟩ := h; exact ⟨a, xs, e, h1, kp _ _ h2, r⟩
    | dc a ds => obtain ⟨xs, e, h1, h2, r⟩ := h; exact ⟨xs, e, h1, kp _ _ h2, r⟩
    | tb P q => obtain ⟨ps, e, h1, h2, t, r⟩ := h; exact ⟨ps, e, h1, kp _ _ h2, t, r⟩
    | fl fs => obtain ⟨a, xs, e, h1, h2, q⟩ := h; exact ⟨a, xs, e, h1, kp _ _ h2, q⟩
    | fv d => exact h
    | vv v d => exact h
  · obtain ⟨p, e, h1, h2⟩ := h.new o'
    refine ⟨p, e, h1, fun z => h2 ?_⟩
    by_cases hb : p = q
    · subst hb; rw [upd_same] at z; cases z
    · rw [upd_ne hb] at z; exact z
theorem pus_par2 {wa wb : WV} {x y : Str} {px py pt : Pos} {kt k2 pt2} (i j : Nat) (ha : PUV X a wa) (hb : PUV X b wb) (hN : X.N.Nodup) (hc : X.calm = true := by rfl) (hi : X.N[i]? = some x := by rfl) (hj : X.N[j]? = some y := by rfl)
    (hx : Loc X.env.scope x := by first | exact Or.inl rfl | exact Or.inr rfl) (hy : Loc X.env.scope y := by first | exact Or.inl rfl | exact Or.inr rfl) (hf : X.fn x = true ∨ X.env.scope.names.lookup x = some .local := by first | exact .inl rfl | exact .inr rfl) (hf' : X.fn y = true ∨ X.env.scope.names.lookup y = some .local := by first | exact .inl rfl | exact .inr rfl)
    (hst : starEach [a, b] X.env = (false, eval a X.env) :: starEach [b] X.env := by rfl) (hst2 : starEach [b] X.env = (false, eval b X.env) :: starEach [] X.env := by rfl)
    (hn : (assignEach [.Name x px, .Name y py] X.env).length = 2 := by rfl) (hst3 : (assignEach [.Name x px, .Name y py] X.env).findIdx? (·.1) = none := by rfl)
    (hs1 : (assignEach [.Name x px, .Name y py] X.env).map (·.2) = assign (.Name x px) X.env :: (assignEach [.Name y py] X.env).map (·.2) := by rfl) (hs2 : (assignEach [.Name y py] X.env).map (·.2) = assign (.Name y py) X.env :: (assignEach [] X.env).map (·.2) := by rfl)
    (hs : swapsWithSole [.Tuple [.Name x px, .Name y py] kt pt] (.Tuple [a, b] k2 pt2) pos.line X.env = pure false := by rfl) (hw : swappedStores [.Tuple [.Name x px, .Name y py] kt pt] (.Tuple [a, b] k2 pt2) X.env = pure none := by rfl)
    (h1 : (assignEach [.Tuple [.Name x px, .Name y py] kt pt] X.env).map (·.2) = [assign (.Tuple [.Name x px, .Name y py] kt pt) X.env] := by rfl) :
    PUS X (.Assign [.Tuple [.Name x px, .Name y py] kt pt] (.Tuple [a, b] k2 pt2) pos) (wPar i j wa wb) := by
  obtain ⟨t, p, s⟩ := pa_two ha hb hst hst2
  refine ⟨_, ps_asg (pe_tup p) (pg_tup hc (pgs_cons (pg_name hN hi hx hf) (pgs_cons (pg_name hN hj hy hf') pgs_nil hs2) hs1) hn hst3) hs hw h1, fun σ F H E Dd Dv I q k => ?_⟩
  refine s σ F H E (fun s u E2 => Dd.nx ((E2.set i s).set j u)) _ I q fun v u F1 H1 E1 s1 s2 I1 X1 hv1 hv2 hne q1 => ?_
  refine ⟨by show 2 ≤ sizeLine; decide, fun c hcn => ⟨c, [v, u], rfl, sqT_of upd_same, rfl, _, _, rfl, _, _, rfl, rfl, ?_⟩⟩
  have I1' := I1.push (o := .tup [v, u]) hcn
  have X1' := X1.trans (Ext.push (o := .tup [v, u]) hcn)
  have hv1 := hv1.push (o := .tup [v, u]) hcn
  have hv2 := hv2.push (o := .tup [v, u]) hcn
  have I2 := I1'.setv i hv1.at_ (hv1.fresh I X1')
  have I3 := I2.setv j hv2.at_ fun o b e m => by
    rcases mine_set m with ⟨o1, rfl⟩ | m
    · exact hne o1 o e.symm
    · exact hv2.fresh I X1' o b e m
  refine k.nx F1 _ _ _ I3 ⟨X1'.fz, X1'.new, X1'.keep, X1'.live, fun b m => ?_⟩ q1
  rcases mine_set m with ⟨o, rfl⟩ | m
  · obtain ⟨p, e, h, _⟩ := hv2.new o
    cases e
    exact .inr h
  · rcases mine_set m with ⟨o, rfl⟩ | m
    · obtain ⟨p, e, h, _⟩ := hv1.new o
      cases e
      exact .inr h
    · exact .inl ((mine_kin X1'.kin.2).mpr m)
end
end AF

set_option Elab.async false
set_option linter.all false
set_option maxRecDepth 100000
set_option maxHeartbeats 4000000
/-! X1: an own exception over any builtin one, with __init__(self, v): super().__init__(v); self.f = v. -/
namespace XE1
open PySem PySem.W PySem.Calls PyProof.Rows PySem.Spec Builtin Builtin.ObjectAttr
/-- the body of such an __init__ -/
abbrev sBody (f slf arg : Str) (p : Nat → Pos) : List Stmt :=
  [.Expr (.Call (.Attribute (.Call (.Name "super" (p 0)) [] [] (p 1)) "__init__" (p 2)) [.Name arg (p 3)] [] (p 4)) (p 5), .Assign [.Attribute (.Name slf (p 6)) f (p 7)] (.Name arg (p 8)) (p 9)]
/-- what the written part tells of such a class -/
structure SupC (K : Frag) (C fI : Addr) (B i newId : String) (bmB : List Value) (f : Str) : Prop where
  ini : excInitIn K C bmB newId = true
  over : excOver K C bmB = true
  fin : findIn K (.ref C) "__init__" = some (some (.ref fI))
  tyI : typeIn K (.ref fI) = some (.type "function")
  sa : findIn K (.ref C) "__setattr__" = some (some (.builtin "object.__setattr__"))
  noF : takerIn K C f = some none
  dct : hasDictIn K C = true
  sub : subIn K (.ref C) (.type B) = some true
  self : mroIn K C (.ref C) = some true
  sup : ks_superIn K C C "__init__" = some (some (.builtin i))
  opq : nsIn K cStatics "thirdparty.any" = some none
section
variable {prog : Program} {w : World} {A : Around} {K : Frag} {C fI : Addr} {B i newId : String} {bmB : List Value} {f : Str}
/-- self.f = v on an exception without a dict -/
theorem first_field {E : Value → Shared → Prop} {hp : Heap} {g : Array GenState} {d : Drawn} {t : Nat} {os : OsState} {e t1 : Addr} {v : Value} {Q : Unit → Shared → Prop} (T : SupC K C fI B i newId bmB f) (SF : StoreFacts B bmB "object.__setattr__" "object") (X : K.In hp)
    (he : hp.get? e = some (HandSPX.excO C t1))
    (hq : ∀ h' tk' dx, (∀ b o, b ≠ e → hp.get? b = some o → h'.get? b = some o) → hp.objs.size ≤ dx → dx ≠ e → h'.get? e = some { cls := .ref C, dict := some dx, data := .fields #[.ref t1, .none, .none, .none, .bool false, .none] } →
      h'.Ns1 dx (fun y => if y = f then some v else none) → Q () ⟨h', g, d, tk', os⟩) :
    wpAny (model prog w) A (setAttr (.ref e) f v) Q E ⟨hp, g, d, t, os⟩ := by
  have I : InstAt hp e (HandSPX.excO C t1) C none := ⟨he, rfl, rfl, trivial⟩
  obtain ⟨cd, hcd, hh⟩ := any_some T.dct
  have hxs : e ≠ hp.objs.size := Nat.ne_of_lt (Heap.lt_size he)
  refine set_plain X I T.sa (osa_openX SF X I T.over T.noF fun b => ?_)
  have hcls : Looks (model prog w) hp (classData C) cd := looks_clsIn X hcd
  obtain ⟨nm, bs, mro, ns, qn, hd, sn, sb, ab, col, del⟩ := cd
  dsimp only at hh
  subst hh
  show wpAny _ _ (storeInOwnDict (.ref e) (.ref C) (.str f t) f v b) _ _ _
  unfold storeInOwnDict ownDictForStores
  repeat (first | with_reducible refine HandSPX.store_in_new ?_ ?_ | with_reducible refine wpAny_loadPart_at he ?_ | with_reducible refine hcls.at ?_ | wp_step)
  · exact ⟨_, #[], _, (Heap.get?_update_ne _ _ _ _ hxs.symm).trans (Heap.get?_push_at rfl rfl), rfl, fun e he => absurd he (by simp), fun _ => rfl⟩
  · intro h' tk' hn' hs
    have hx1 : (hp.push { cls := .type "dict", data := .dict #[] }).get? e = some (HandSPX.excO C t1) := Heap.get?_push_of_some _ he
    refine hq h' tk' hp.objs.size (fun b o hb ho => ?_) (Nat.le_refl _) hxs.symm ?_ hn'
    · exact (hs.2 b (Nat.ne_of_lt (Heap.lt_size ho))).trans ((Heap.get?_update_ne _ _ _ _ hb).trans (Heap.get?_push_of_some _ ho))
    · exact (hs.2 e hxs).trans (Heap.get?_update_self _ hx1 rfl)
end
section
variable {prog : Program} {w : World} {A : Around} {K : Frag} {C fI : Addr} {B i newId : String} {bmB : List Value} {f : Str}
/-- what the written part tells of the def __init__ -/
structure SupI (prog : Program) (K : Frag) (C fI : Addr) (f : Str) (qual : Str) (params : Arguments) (scope : Scope) (slf arg : Str) (p : Nat → Pos) (fdt : FuncData) (cc cda : Addr) : Prop where
  lk : ∃ oc od osl, K.lookup fI = some ⟨oc, od, .func fdt, osl⟩
  fde : ∃ dV kV doc pm an ct, fdt = ksFn "__init__" qual params (sBody f slf arg p) scope dV kV doc pm an (.ref cda) ct cc
  cdI : codeIn K (.ref cda) qual = true
  cdr : ∃ ccl cdd vs ccs file tf, K.lookup cda = some ⟨ccl, cdd, .fields vs, ccs⟩ ∧ vs[2]? = some (.str file tf) ∧ ((prog.main.file : Str) == file) = true
  cel : ∃ cl cld csl, K.lookup cc = some ⟨cl, cld, .cell (some (.ref C)), csl⟩
  bnd : ∀ (s : Shared) (a u : Value), BindsTo s fdt ⟨[a, u], []⟩ [(slf, a), (arg, u)]
  kind : scope.kind = .function
  co : scope.isCoroutine = false
  gen : scope.isGenerator = false
  cells : ∀ x ∈ scope.names, x.2 ≠ .cell
  sS : scope.names.lookup ("super" : Str) = some .globalImplicit
  sC : scope.names.lookup ("__class__" : Str) = some .free
  s0 : scope.names.lookup slf = some .local
  s1 : scope.names.lookup arg = some .local
  hd : ∃ ar : Arg, (params.posonlyargs ++ params.args).head? = some ar ∧ ar.arg = slf
  ne : (slf == arg) = false
  dS : (slf == ("__debug__" : Str)) = false
  dA : (arg == ("__debug__" : Str)) = false
  itv : ∀ L, interactive (callEnv fdt L fI) = false
  ev : ∀ L, ∃ pl : Sem Bool, eval (.Call (.Attribute (.Call (.Name "super" (p 0)) [] [] (p 1)) "__init__" (p 2)) [.Name arg (p 3)] [] (p 4)) (callEnv fdt L fI) = (do
      let ov ← attributeBase (.Call (.Name "super" (p 0)) [] [] (p 1)) "__init__" (callEnv fdt L fI) (eval (.Call (.Name "super" (p 0)) [] [] (p 1)) (callEnv fdt L fI))
      standAt (p 2).atName
      let (f, first) ← holding [ov] (getMethod ov "__init__" pl)
      callWith (p 4) f first (backTo (p 4) (starEach [.Name arg (p 3)] (callEnv fdt L fI))) [])
  top : (prog.main.scope.names.lookup ("super" : Str)).isSome = false
theorem init_run {hb hp : Heap} {mg mb : Str → Option Value} {g : Array GenState} {d : Drawn} {t : Nat} {os : OsState} {e t0 : Addr} {u : Value} {R : Result → Shared → Prop} {qual : Str} {params : Arguments} {scope : Scope} {slf arg : Str} {p : Nat → Pos} {fd : FuncData} {cc cda : Addr}
    (T : SupC K C fI B i newId bmB f) (S : SupI prog K C fI f qual params scope slf arg p fd cc cda) (FB : ExcBaseFacts B newId i bmB) (KF : KxsFacts B i) (SF : StoreFacts B bmB "object.__setattr__" "object")
    (X0 : K.In hb) (kb : ∀ b o, hb.get? b = some o → hp.get? b = some o) (nb : hb.get? e = none) (nol : hp.NoLimit) (G : hb.Ns mainGlobals mg) (mgs : mg "super" = none) (Bt : hb.Ns builtinsNs mb) (mbs : mb "super" = some (.type "super"))
    (he : hp.get? e = some (HandSPX.excO C t0)) (hroom : A.depth < recursionLimit)
    (hq : ∀ h' tk' dx t1, (∀ b o, b ≠ e → hp.get? b = some o → h'.get? b = some o) → hp.objs.size ≤ dx → dx ≠ e → h'.get? e = some { cls := .ref C, dict := some dx, data := .fields #[.ref t1, .none, .none, .none, .bool false, .none] } →
      h'.Ns1 dx (fun y => if y = f then some u else none) → R (.ok (.ret .none)) ⟨h', g, d, tk', os⟩) :
    codeAny (model prog w) A (.call (.ref fI) ⟨[.ref e, u], []⟩) R ⟨hp, g, d, t, os⟩ := by
  obtain ⟨oc, od, osl, lk⟩ := S.lk
  obtain ⟨dV, kV, doc, pm, an, ct, rfl⟩ := S.fde
  obtain ⟨ccl, cdd, vs, ccs, file, tf, hcda, hvs, hfile⟩ := S.cdr
  obtain ⟨cl, cld, csl, hcc⟩ := S.cel
  obtain ⟨ar, har, harn⟩ := S.hd
  have X : K.In hp := X0.keeps kb
  have eL : e < hp.objs.size := Heap.lt_size he
  refine ks_codeAny_call_defAt (s := ⟨hp, g, d, t, os⟩) (binds := [(slf, .ref e), (arg, u)]) hroom (X _ _ lk) rfl nol (codeRec_of X S.cdI) rfl (S.bnd _ _ _) S.cells (fun x hx => ?_) (fun h0 hns k0 => ?_) S.co S.gen S.kind
  · rcases List.mem_cons.mp hx with rfl | hx
    · exact S.s0
    · rcases List.mem_cons.mp hx with rfl | hx
      · exact S.s1
      · cases hx
  have k1 : ∀ b o, hb.get? b = some o → h0.get? b = some o := fun b o z => k0 b o (kb b o z)
  have lS : ([(slf, Value.ref e), (arg, u)] : List (Str × Value)).reverse.lookup slf = some (.ref e) := by simp [List.lookup, S.ne]
  have lA : ([(slf, Value.ref e), (arg, u)] : List (Str × Value)).reverse.lookup arg = some u := by simp [List.lookup]
  generalize henv : callEnv (ksFn "__init__" qual params (sBody f slf arg p) scope dV kV doc pm an (.ref cda) ct cc) hp.objs.size fI = env
  have hL : env.locals = hp.objs.size := by rw [← henv]; rfl
  have hG : env.globals = mainGlobals := by rw [← henv]; rfl
  have hB : env.builtins = builtinsNs := by rw [← henv]; rfl
  have hks : env.kindOf "super" = some .globalImplicit := by rw [← henv]; exact S.sS
  have hkc : env.kindOf "__class__" = some .free := by rw [← henv]; exact S.sC
  have hkS : env.kindOf slf = some .local := by rw [← henv]; exact S.s0
  have hkA : env.kindOf arg = some .local := by rw [← henv]; exact S.s1
  have hkf : env.scope.kind = .function := by rw [← henv]; exact S.kind
  have hcl : env.cells.lookup ("__class__" : Str) = some cc := by rw [← henv]; rfl
  have hfu : env.func = some fI := by rw [← henv]; rfl
  have hcd : env.code = .ref cda := by rw [← henv]; rfl
  have hin : interactive env = false := by rw [← henv]; exact S.itv _
  obtain ⟨pl, hev⟩ := S.ev hp.objs.size
  rw [henv] at hev
  have hns' : h0.Ns env.locals fun x => ([(slf, Value.ref e), (arg, u)] : List (Str × Value)).reverse.lookup x := by rw [hL]; exact hns
  refine ks_wpAt_execs_cons (ks_wpAt_Expr_any (ks_wpAt_MethodCall (pl := pl) ?_ hev) hin (by rfl))
  obtain ⟨cdD, hcD, hdD⟩ := any_some T.dct
  obtain ⟨oD, hD1, hD2⟩ : ∃ oD, h0.get? C = some oD ∧ oD.data = .cls cdD := by
    unfold clsIn at hcD
    split at hcD
    · rename_i c0 d0 cd0 sl0 ho
      cases hcD
      exact ⟨_, k1 _ _ (X0 _ _ ho), rfl⟩
    · cases hcD
  have Xh : K.In h0 := X0.keeps k1
  have he0 : h0.get? e = some (HandSPX.excO C t0) := k0 _ _ he
  refine ks_wpAt_super_base hks hkc (by decide) hfu (Xh _ _ lk) rfl har hcd (Xh _ _ hcda) rfl hvs hfile S.top ?_
  refine ks_loadName_global hkf hks (loadGlobal_builtin (by rw [hG]; exact G.keeps k1) mgs (by rw [hB]; exact Bt.keeps k1) mbs ⟨rfl, ?_⟩)
  refine wpAny_loadName_free hkf hkc hcl ⟨_, Xh _ _ hcc, rfl⟩ ?_
  rw [harn]
  refine wpAny_loadName_local hkf hkS hns' lS ?_
  refine ks_wpAny_isType_cls hD1 hD2 ⟨rfl, ?_⟩
  refine ks_wpAny_call_super hD1 hD2 he0 rfl (fun c z => by cases z) (looks_mroIn Xh T.self) (fun h1 eso k2 => ?_)
  have X1h : K.In h1 := Xh.keeps k2
  have he1 : h1.get? e = some (HandSPX.excO C t0) := k2 _ _ he0
  have eC : e ≠ C := fun z => by
    unfold clsIn at hcD
    split at hcD
    · rename_i c0 d0 cd0 sl0 ho
      have y := X0 _ _ ho
      rw [← z, nb] at y
      cases y
    · cases hcD
  have hI : Looks (model prog w) h1 (isInstance (.ref e) (.type B)) true := (InstAt.type (od := none) ⟨he1, rfl, rfl, trivial⟩).andThen (looks_subIn X1h T.sub)
  have hsup := T.sup
  unfold ks_superIn at hsup
  rw [hcD] at hsup
  refine kxs_getMethod KF (K := K) (l₀ := cdD.mro) eso (looks_opaque X1h T.opq) (fun A Q E s k q => wpAny_bind ((looks_clsIn X1h hcD) A _ E s k (wpAny_pure q))) rfl X1h hsup hI eC (by decide) ?_
  have hst : starEach [Expr.Name arg (p 3)] env = (false, eval (.Name arg (p 3)) env) :: starEach [] env := by rfl
  have eL1 : hp.objs.size < h1.objs.size := by
    obtain ⟨o, _, _, ho, _⟩ := hns
    exact Heap.lt_size (k2 _ _ ho)
  have kmw : ∀ b o, h1.get? b = some o → (h1.push (kxs_mw i e)).get? b = some o := fun b o z => Heap.get?_push_of_some _ z
  have hns2 : (h1.push (kxs_mw i e)).Ns env.locals fun x => ([(slf, Value.ref e), (arg, u)] : List (Str × Value)).reverse.lookup x := (hns'.keeps k2).keeps kmw
  have hmw : (h1.push (kxs_mw i e)).get? h1.objs.size = some (kxs_mw i e) := Heap.get?_push_at rfl rfl
  have he2 := kmw _ _ he1
  show wpAny _ _ (callWith (p 4) (.ref h1.objs.size) [] (backTo (p 4) (starEach [Expr.Name arg (p 3)] env)) []) _ _ _
  rw [hst]
  refine kxs_callWith (i := i) (x := e) (by rfl) (evalArgs_plain ?_)
  refine Calls.spliced_cons (wpAny_Name (wpAny_loadName_local hkf hkA hns2 lA ?_) S.dA)
  refine Calls.spliced_nil ⟨hmw, ?_⟩
  obtain ⟨nm, N', qn, bs, bm, hdct, sn, sub, ab, col, dd, c0, c1, c2, c3, c5, hC, hT⟩ := excInit_of (X1h.keeps kmw) T.ini
  show wpAny _ _ (call (.ref h1.objs.size) [u]) _ _ _
  refine wpAny_call (codeAny_of_tree ?_)
  show wpAny _ (A.deeper env).in1 (callAny (.ref h1.objs.size) ⟨[u], []⟩) _ _ _
  simp only [callAny]
  refine wpAny_bind (wpAny_load hmw ?_)
  simp only [kxs_mw, show (Value.type "method-wrapper" == Value.type "method" || Value.type "method-wrapper" == Value.type "builtin_function_or_method" || Value.type "method-wrapper" == Value.type "method-wrapper") = true by decide, if_true]
  refine KFB.if_so (by decide) ?_
  refine wpAny_bind (check_bound_init FB.toExcCallFacts hC he2 rfl ?_)
  refine wpAny_bind (wpAny_pure (wpAny_pure ?_))
  refine ⟨plainId_quiet FB.init.plain _, codeAny_builtin FB.initEntry ?_⟩
  refine exc_init_tree (cls := .ref C) (t0 := t0) (dv := none) (c2 := .none) (c3 := .none) (b4 := .bool false) he2 (by show 1 ≤ sizeLine; decide) fun h3 k3 he3 _ => ?_
  have nbe : ∀ b o, hb.get? b = some o → b ≠ e := fun b o z y => by
    rw [y, nb] at z
    cases z
  have k3b : ∀ b o, hb.get? b = some o → h3.get? b = some o := fun b o z => k3 b o (nbe b o z) (kmw _ _ (k2 _ _ (k1 _ _ z)))
  have X3 : K.In h3 := X0.keeps k3b
  have Le : env.locals ≠ e := by rw [hL]; exact Nat.ne_of_gt eL
  have hns3 : h3.Ns env.locals fun x => ([(slf, Value.ref e), (arg, u)] : List (Str × Value)).reverse.lookup x := by
    obtain ⟨o, es, ep, ho, r⟩ := hns2
    exact ⟨o, es, ep, k3 _ _ Le ho, r⟩
  refine ks_wpAt_execs_cons (ks_wpAt_Assign_Attr (wpAt_of_wpAny (wpAny_Name (wpAny_loadName_local hkf hkA hns3 lA ?_) S.dA)) (by rfl))
  refine wpAny_Name (wpAny_loadName_local hkf hkS hns3 lS ?_) S.dS
  refine first_field T SF X3 he3 fun h4 tk dx k4 hdx dxe he4 hn4 => ?_
  refine wpAt_of_wpAny (wpAny_execs_nil ?_)
  refine hq h4 tk dx _ (fun b o hbe z => k4 b o hbe (k3 b o hbe (kmw _ _ (k2 _ _ (k0 _ _ z))))) ?_ dxe he4 hn4
  have z3 : h1.objs.size ≤ h3.objs.size := by
    refine Nat.le_of_lt (Heap.lt_size (k3 h1.objs.size _ (fun z => ?_) hmw))
    have := Heap.lt_size he1
    rw [← z] at this
    exact Nat.lt_irrefl _ this
  exact Nat.le_trans (Nat.le_of_lt eL1) (Nat.le_trans z3 hdx)
end
end XE1

set_option Elab.async false
set_option linter.all false
set_option maxRecDepth 100000
set_option maxHeartbeats 4000000
/-! X2: raise X(e), X with such an __init__. -/
namespace AF
open PySem PySem.Spec PyProof.Rows L2 PySem.HandSPX XE1
/-- C(e): the exception is flying, its dict holds f -/
def tMkS (C : Addr) (f : Str) (ta : TA) : L2.St → Hp → XK → Prop := fun σ H Q => ta σ H fun vs H1 => ∃ v, vs = [v] ∧ ∀ d, H1 d = none → Q (.ref C) (some d) (upd H1 d (.xd [(f, v)]))
section
variable {X : Cx} {e : Expr} {p pos : Pos} {ta : TA} {x : Str} {C fI : Addr} {B i newId : String} {bmB : List Value} {f : Str} {k : Nat} {qual : Str} {params : Arguments} {scope : Scope} {slf arg : Str} {pp : Nat → Pos} {fd : FuncData} {cc cda : Addr}
theorem pmk_sup (T : SupC X.K C fI B i newId bmB f) (S : SupI X.prog X.K C fI f qual params scope slf arg pp fd cc cda) (FB : ExcBaseFacts B newId i bmB) (KF : PySem.W.KxsFacts B i) (SF : StoreFacts B bmB "object.__setattr__" "object")
    (bE : PySem.W.subIn X.K (.ref C) (.type "BaseException") = some true) (tC : PySem.W.typeIn X.K (.ref C) = some (.type "type")) (kC : PySem.W.keepIn X.K (.ref C) = true) (msup : X.mg "super" = none)
    (hr : Room (k + 1) X.A) (hg : Gl X x) (hm : X.mg x = some (.ref C)) (ha : PA X [e] ta) (hdb : (x == ("__debug__" : Str)) = false := by decide)
    (he : starEach [e] X.env = (false, eval e X.env) :: starEach [] X.env := by rfl) (hpl : (backTo pos (starEach [] X.env)).any (·.1) = false := by rfl) :
    PMk X (.Call (.Name x p) [e] [] pos) (tMkS C f ta) := by
  intro pins s σ H Q I h
  refine wpAny_Call_Name_kw (ld_glob I hg hm ?_ hdb)
  refine PySem.W.callWith_K (h₀ := X.base) I.ok.mod.kin kC (thn (ha.run pos pins s σ H _ I h) fun us s1 ⟨vs, H1, I1, r1, v, ev, q1⟩ => ⟨I1.kIn, ?_⟩) he hpl
  show wpAny _ _ (call (.ref C) us) _ _ _
  subst ev
  obtain ⟨u, rfl, ru⟩ : ∃ u, us = [u] ∧ RelV v u := by
    cases r1 with
    | cons r t => cases t; exact ⟨_, rfl, r⟩
  obtain ⟨hp, g, dr, tk, os⟩ := s1
  obtain ⟨nm, N', qn, bs, bm, hdct, sn, sub, ab, col, dd, c0, c1, c2, c3, c5, hC, hT⟩ := PySem.W.excInit_of I1.kIn T.ini
  have kk : ∀ b o, hp.get? b = some o → ((hp.push (PySem.W.kdv_tup [u])).push (excO C hp.objs.size)).get? b = some o := fun b o e => Heap.get?_push_of_some _ (Heap.get?_push_of_some _ e)
  have hget : ((hp.push (PySem.W.kdv_tup [u])).push (excO C hp.objs.size)).get? (hp.objs.size + 1) = some (excO C hp.objs.size) := by heap_get
  obtain ⟨mb, hmb, hmb2⟩ := I1.mod.blt
  have hroom : (X.A.under (.builtin "type.__call__" ⟨.ref C :: [u], []⟩)).depth < recursionLimit := (hr.make C [u] []).depth
  refine wpAny_call (call_own FB hT hC (PySem.W.looks_findIn I1.kIn T.fin) (fun self => PySem.W.bind_fn I1.kIn self T.tyI) (by show 1 ≤ sizeLine; decide) ?_)
  refine init_run (hb := X.base) T S FB KF SF I1.mod.kin (fun b o z => kk b o (I1.bk b o z)) ?_ (I1.nolimit.keeps kk) I1.mod.glob msup hmb ((hmb2 _ (by decide)).trans (by kernel_rfl)) hget hroom fun h' tk' dx t1 k' hdx dxe he' hn' => ?_
  · cases q : X.base.get? (hp.objs.size + 1) with
    | none => rfl
    | some o => exact absurd (Heap.lt_size (I1.bk _ _ q)) (by exact Nat.not_lt.mpr (Nat.le_succ _))
  have nh : ∀ b o, hp.get? b = some o → b ≠ hp.objs.size + 1 := fun b o z => Nat.ne_of_lt (Nat.lt_succ_of_lt (Heap.lt_size z))
  obtain ⟨G, g1, g2⟩ := restrict h' fun b => decide (b ≠ hp.objs.size + 1)
  have gk : ∀ b, b ≠ hp.objs.size + 1 → G.get? b = h'.get? b := fun b hb => g1 b (decide_eq_true hb)
  have gn : G.get? (hp.objs.size + 1) = none := g2 _ (by simp)
  have kG : ∀ b o, hp.get? b = some o → G.get? b = some o := fun b o z => (gk b (nh b o z)).trans (k' b o (nh b o z) (kk b o z))
  have hsz : hp.objs.size ≤ dx := by
    refine Nat.le_trans ?_ hdx
    rw [Heap.size_push, Heap.size_push]
    exact Nat.le_trans (Nat.le_succ _) (Nat.le_succ _)
  have hnG : G.Ns1 dx fun y => if y = f then some u else none := hn'.at fun o z => (gk dx dxe).trans z
  have J : Inv X pins σ (upd H1 dx (.xd [(f, v)])) ⟨G, g, dr, tk', os⟩ := I1.laid (t' := tk') (a := dx) (o := .xd [(f, v)]) (h' := G) kG hsz ⟨_, hnG, fun y => by
    by_cases hy : y = f
    · subst hy
      simp only [List.lookup, beq_self_eq_true, if_pos rfl]
      exact ru
    · have e2 : (y == f) = false := by simpa using hy
      simp [List.lookup, e2, hy, RelO]⟩
  have na : H1 (hp.objs.size + 1) = none := I1.hok.fresh (Nat.le_succ _)
  refine ⟨rfl, hp.objs.size + 1, _, _, ⟨G, g, dr, tk', os⟩, _, .ref C, some dx, rfl, J, fun b o z => ?_, gn, he', ⟨rfl, rfl⟩, rfl, rfl, ?_, rfl, J.bare, raises_own bE tC, q1 dx (I1.hok.fresh hsz)⟩
  · have hb : b ≠ hp.objs.size + 1 := fun y => by rw [y, gn] at z; cases z
    exact (gk b hb).symm.trans z
  · rw [upd_ne (Ne.symm dxe)]
    exact na
end
end AF

set_option Elab.async false
set_option linter.all false
set_option maxRecDepth 100000
set_option maxHeartbeats 4000000
/-! X3: try with several except clauses, each with a name or without. -/
namespace AF
open PySem PySem.Spec PyProof.Rows L2 PySem.HandSPX
abbrev Suite := Addr → Value → Option Addr → TS
/-- the ends of a suite whose name goes behind it -/
def goneD (i : Nat) (D : Ends) : Ends := { nx := fun σ' H' => D.nx (σ'.set i none) H', rt := D.rt, bk := fun σ' H' => D.bk (σ'.set i none) H', ct := fun σ' H' => D.ct (σ'.set i none) H' }
def suiteAt (oi : Option Nat) (ts : Suite) (a : Addr) (cls : Value) (d : Option Addr) (D : Ends) (σ : L2.St) (H : Hp) : Prop := match oi with
  | none => ts a cls d D σ H
  | some i => ts a cls d (goneD i D) (σ.set i (some (.ref a))) H
def wG (K : PySem.W.Frag) (Wout : WX) (D : Ends) : List (Value × Option Nat × Suite) → WX
  | [] => Wout
  | q :: r => fun cls d σ H => ∃ b, PySem.W.exmOne K cls q.1 = some b ∧ (b = true → ∀ a, H a = none → suiteAt q.2.1 q.2.2 a cls d D σ H) ∧ (b = false → wG K Wout D r cls d σ H)
def SuiteOk (X : Cx) (ss : List Stmt) (ts : Suite) : Prop := ∀ (a : Addr) (oe : Obj) (cls : Value) (d : Option Addr) (pn : List (Addr × Obj)), Zc cls d oe → (∃ vs, oe.data = .fields vs) → PSs (X.suite a ((a, oe) :: pn)) ss (ts a cls d)
inductive HdsG (X : Cx) : List ExceptHandler → List (Value × Option Nat × Suite) → Prop
  | nil : HdsG X [] []
  | bare {x : Str} {c : Value} {ts : Suite} {b₀ : Stmt} {suite : List Stmt} {np ps : Pos} {hds : List ExceptHandler} {l : List (Value × Option Nat × Suite)} (hc : Names X x c) (hsu : SuiteOk X (b₀ :: suite) ts) (r : HdsG X hds l) :
      HdsG X (.ExceptHandler (some (.Name x np)) none (b₀ :: suite) ps :: hds) ((c, none, ts) :: l)
  | as {x n : Str} {c : Value} {i : Nat} {ts : Suite} {b₀ : Stmt} {suite : List Stmt} {np ps : Pos} {hds : List ExceptHandler} {l : List (Value × Option Nat × Suite)} (hi : X.N[i]? = some n) (hln : X.env.kindOf n = some .local) (hc : Names X x c) (hsu : SuiteOk X (b₀ :: suite) ts) (r : HdsG X hds l) :
      HdsG X (.ExceptHandler (some (.Name x np)) (some n) (b₀ :: suite) ps :: hds) ((c, some i, ts) :: l)
section
variable {X : Cx} {body : List Stmt} {h₀ : ExceptHandler} {hds : List ExceptHandler} {l : List (Value × Option Nat × Suite)} {pos : Pos} {tb : WX → TS} {Wout : WX}
/-- a suite's end, back in the def's context -/
theorem suite_end {pins : List (Addr × Obj)} {a : Addr} {q : Addr × Obj} {D : Ends} {f : Flow} {s6 : Shared} (ok : X.Ok) (h : SP (X.suite a (q :: (X.pn ++ pins))) [] D f s6) : SP X pins D f s6 := by
  cases f <;> (try obtain ⟨σ6, H6, S6, q6⟩ := h; exact ⟨σ6, H6, S6.unsuite ok, q6⟩)
  obtain ⟨v6, σ6, H6, S6, r6, q6⟩ := h
  exact ⟨v6, σ6, H6, S6.unsuite ok, r6, q6⟩
theorem try_end {pins : List (Addr × Obj)} {xe : Value → Shared → Prop} {D : Ends} {f : Flow} {s1 : Shared} (ok : X.Ok) (h : SP (X.tr (X.pn ++ pins) xe) [] D f s1) : SP X pins D f s1 := by
  cases f <;> (try obtain ⟨σ', H', J', q⟩ := h; exact ⟨σ', H', J'.ofTry ok, q⟩)
  obtain ⟨v, σ', H', J', r, q⟩ := h
  exact ⟨v, σ', H', J'.ofTry ok, r, q⟩
theorem ps_try_g (hs : X.stack = X.env :: X.outer) (hf : X.env.frame = some X.env.locals) (hN : X.N.Nodup) (tk : Takes X Wout)
    (hb : ∀ (W : WX) (pn : List (Addr × Obj)) (xe : Value → Shared → Prop), Takes (X.tr pn xe) W → PassesOwn (model X.prog X.w) X.A X.env xe → PSs (X.tr pn xe) body (tb W))
    (hh : HdsG X (h₀ :: hds) l) : PS X (.Try body (h₀ :: hds) [] [] pos) (fun D σ H => tb (wG X.K Wout D l) D σ H) := by
  refine ⟨fun pins s σ H D I h => ?_⟩
  have ok := I.ok
  have fr : X.A.frames = some (X.env :: X.outer) := ok.frames.trans (by rw [hs])
  refine wpAny_Try_except (wpAny_mono ((hb (wG X.K Wout D l) (X.pn ++ pins) (fun e s₁ => wpAny (model X.prog X.w) X.A (noteFrame e X.env) (fun _ s₂ => wpAny (model X.prog X.w) X.A (setFlight e none)
    (fun _ s₃ => wpAny (model X.prog X.w) X.A (handleBy e X.env (h₀ :: hds)) (SP X pins D) X.xe s₃) X.xe s₂) X.xe s₁) (fun u s' xx => ?_) PassesOwn.looking).run [] s σ H D (I.toTry _) h) (fun f s1 hsp => ?_) fun e s1 he => he)
  · obtain ⟨a, B, sI, pins', σ', H', cls, d, rfl, J', nb, up, sky, na, os, ag, w⟩ := xx
    have J : Inv X pins σ' H' sI := J'.ofTry ok
    show wpAny (model X.prog X.w) X.A (noteFrame (.ref a) X.env) _ _ _
    refine Sky.land Zc.steady fr hf (by rw [← hs]; exact sky) fun h3 fl3 up3 => ?_
    obtain ⟨oe3, vs3, he3, hz3, hd3⟩ := fl3.there
    have away : a ∉ frs (X.env :: X.outer) := fun hm => by
      obtain ⟨_, o', e', hnf⟩ := fl3.2.2.1.mem hm
      exact hnf vs3 (by rw [he3] at e'; rw [← Option.some.inj e']; exact hd3)
    have nL : a ≠ X.env.locals := fun z => away (List.mem_filterMap.mpr ⟨X.env, List.mem_cons_self, by rw [hf, z]⟩)
    have nF : a ∉ X.fs := fun hm => by
      obtain ⟨e, he, q⟩ := List.mem_filterMap.mp hm
      exact away (List.mem_filterMap.mpr ⟨e, List.mem_cons_of_mem _ he, q⟩)
    have J3 : Inv X pins σ' H' { s' with heap := h3 } := J.landed nb fl3.1 (up.trans up3) os ag
    have S3 := J3.suite he3 hd3 na nL nF
    have LT : PySem.W.Looks (model X.prog X.w) h3 (typeOf (.ref a)) cls := fun A Q E s k q => wpAny_typeOf_ref (k _ _ he3) (by rw [hz3.1]; exact q)
    have test : ∀ {x : Str} {c : Value} {np : Pos} {Q : Value → Shared → Prop} {E : Value → Shared → Prop}, Names X x c → Q c { s' with heap := h3 } → wpAny (model X.prog X.w) (X.A.mark (some (.ref a))) (eval (.Name x np) X.env) Q E { s' with heap := h3 } := fun {x c np Q E} hc q => by
      obtain ⟨g1, g2, g3 | ⟨g3, g4, g5⟩⟩ := hc
      · exact ld_glob (X := X.suite a ((a, oe3) :: (X.pn ++ pins))) S3 g1 g3 q g2
      · exact ld_blt (X := X.suite a ((a, oe3) :: (X.pn ++ pins))) S3 g1 g3 g4 q g5 g2
    have go : ∀ {hds' : List ExceptHandler} {l' : List (Value × Option Nat × Suite)}, HdsG X hds' l' → wG X.K Wout D l' cls d σ' H' → wpAny (model X.prog X.w) X.A (handleBy (.ref a) X.env hds') (SP X pins D) X.xe { s' with heap := h3 } := by
      intro hds' l' hk
      induction hk with
      | nil =>
        intro w
        refine wpAny_handleBy_nil ?_
        obtain ⟨_, _, _, oe, vs, T, oT, ts', he, hz, hd, h1, hr⟩ := id fl3
        unfold PySem.passOn
        refine wpAny_bind (wpAny_field he hd h1 ?_)
        rw [if_neg (show ¬ ((Value.ref T == Value.none) = true) from by simp)]
        have fin : wpAny (model X.prog X.w) X.A (setFlight (.ref a) X.env.frame) (fun _ s4 => wpAny (model X.prog X.w) X.A (throw (.ref a) : Sem Flow) (SP X pins D) X.xe s4) X.xe { s' with heap := h3 } := by
          rw [hf]
          exact setFlight_upZ fl3 fun h4 hh4 up4 => wpAny_throw (tk _ _ ⟨a, B, sI, pins, σ', H', cls, d, rfl, J, nb, (up.trans up3).trans up4, .inr (.inr (by rw [hs]; exact hh4)), na, os, ag, w⟩)
        first | exact wpAny_bind (wpAny_pure (wpAny_bind fin)) | exact wpAny_bind fin
      | bare hc hsu r ih =>
        intro w
        obtain ⟨b, e1, yes, no⟩ := w
        refine wpAny_handleBy_cons (codeAny_handlers_test ?_) (by intro q; cases q)
        refine test hc ((PySem.W.exm_one (M := model X.prog X.w) J3.kIn LT e1).here ?_)
        cases b with
        | true =>
          refine codeAny_handlers_suite (lands_againZ fl3 fun h4 fl4 up4 => ?_)
          obtain ⟨oe4, vs4, he4, hz4, hd4⟩ := fl4.there
          have S4 := (J.landed (s' := { s' with heap := h4 }) nb fl4.1 ((up.trans up3).trans up4) os ag).suite he4 hd4 na nL nF
          exact wpAny_mono ((hsu a oe4 cls d (X.pn ++ pins) hz4 ⟨_, hd4⟩).run [] _ _ H' _ S4 (yes rfl a na)) (fun f s6 hsp => suite_end ok hsp) fun _ _ z => False.elim z
        | false => exact ih (no rfl)
      | @as x n c i ts b₀ suite np ps hds2 l2 hi hln hc hsu r ih =>
        intro w
        obtain ⟨b, e1, yes, no⟩ := w
        refine wpAny_handleBy_cons (codeAny_handlers_test ?_) (by intro q; cases q)
        refine test hc ((PySem.W.exm_one (M := model X.prog X.w) J3.kIn LT e1).here ?_)
        cases b with
        | true =>
          refine codeAny_handlers_suite_as (lands_againZ fl3 fun h4 fl4 up4 => ?_)
          obtain ⟨oe4, vs4, he4, hz4, hd4⟩ := fl4.there
          have S4 := (J.landed (s' := { s' with heap := h4 }) nb fl4.1 ((up.trans up3).trans up4) os ag).suite he4 hd4 na nL nF
          refine store_ok (X := X.suite a ((a, oe4) :: (X.pn ++ pins))) (v := .ref a) S4 hN hi (.inl hln) rfl (fun s5 S5 => ?_) (.inr hln)
          refine wpAny_mono ((hsu a oe4 cls d (X.pn ++ pins) hz4 ⟨_, hd4⟩).run [] s5 _ H' _ S5 (yes rfl a na)) (fun f s6 hsp => ?_) fun _ _ z => False.elim z
          have fin : ∀ {σ6 : L2.St} {H6 : Hp} {Q : Shared → Prop}, Inv (X.suite a ((a, oe4) :: (X.pn ++ pins))) [] σ6 H6 s6 → (∀ s7, Inv X pins (σ6.set i none) H6 s7 → Q s7) →
              wpAny (model X.prog X.w) X.A (do bindName X.env n .none; unbindBehindTheSuite X.env n ps) (fun _ s7 => Q s7) X.xe s6 := fun S6 hq => gone_ok (S6.unsuite ok) hN hi hln hq
          cases f with
          | ret u =>
            obtain ⟨v6, σ6, H6, S6, r6, q6⟩ := hsp
            exact fin S6 fun s7 J7 => ⟨v6, _, H6, J7, r6, q6⟩
          | next => obtain ⟨σ6, H6, S6, q6⟩ := hsp; exact fin S6 fun s7 J7 => ⟨_, H6, J7, q6⟩
          | brk => obtain ⟨σ6, H6, S6, q6⟩ := hsp; exact fin S6 fun s7 J7 => ⟨_, H6, J7, q6⟩
          | cont => obtain ⟨σ6, H6, S6, q6⟩ := hsp; exact fin S6 fun s7 J7 => ⟨_, H6, J7, q6⟩
        | false => exact ih (no rfl)
    exact go hh w
  · have z := try_end ok hsp
    cases f with
    | next => exact wpAny_execs_nil z
    | _ => exact z
end
end AF

set_option Elab.async false
set_option linter.all false
set_option maxRecDepth 100000
set_option maxHeartbeats 2000000
/-! AF17: defs that may raise. -/
namespace AF
open PySem PySem.Spec PyProof.Rows L2 XE1
/-- an exception as data: its class's name; its one field -/
inductive XD where
  | msg (c : Str)
  | val (c f : Str) (d : D)
def XRel (K : PySem.W.Frag) (mg : Str → Option Value) (F H : Hp) (cls : Value) (o : Option Addr) : XD → Prop
  | .msg c => ∃ C : Addr, mg c = some (.ref C) ∧ cls = .ref C ∧ o = none
  | .val c f d => ∃ (C dd : Addr) (v : V), mg c = some (.ref C) ∧ cls = .ref C ∧ o = some dd ∧ H dd = some (.xd [(f, v)]) ∧ Dp K F v d
/-- what a raise leaves -/
structure AgreeX (K : PySem.W.Frag) (mg : Str → Option Value) (F H : Hp) (σ : L2.St) (E : Env') (R : XD → Prop) (W : XK) : Prop where
  to : ∀ cls o F' H' σ' E' xd, ExtS F H F' H' σ E σ' E' → Same F' H' → XRel K mg F' H' cls o xd → R xd → W cls o H'
theorem AgreeX.step {K : PySem.W.Frag} {mg : Str → Option Value} {F H F1 H1 : Hp} {σ σ1 : L2.St} {E E1 : Env'} {R : XD → Prop} {W : XK} (x : ExtS F H F1 H1 σ E σ1 E1) (k : AgreeX K mg F H σ E R W) : AgreeX K mg F1 H1 σ1 E1 R W :=
  ⟨fun cls o F' H' σ' E' xd y s r q => k.to cls o F' H' σ' E' xd (x.trans y) s r q⟩
abbrev WSX := (XD → Prop) → EndsD → Env' → Prop
def SndX (K : PySem.W.Frag) (mg : Str → Option Value) (W : XK) (t : TS) (w : WSX) : Prop := ∀ (σ : L2.St) (F H : Hp) (E : Env') (R : XD → Prop) (Dd : EndsD) (Dv : Ends), EnvD K F H σ E → w R Dd E → Agree K F H σ E Dd Dv → AgreeX K mg F H σ E R W → t Dv σ H
structure PUX (X : Cx) (W : XK) (s : Stmt) (w : WSX) : Prop where
  ex : ∃ t, PS X s t ∧ SndX X.K X.mg W t w
structure PUXs (X : Cx) (W : XK) (ss : List Stmt) (w : WSX) : Prop where
  ex : ∃ t, PSs X ss t ∧ SndX X.K X.mg W t w
/-- the class X with super().__init__(v); self.f = v -/
structure SupN (P : Program) (K : PySem.W.Frag) (mg : Str → Option Value) (x f : Str) : Prop where
  ex : ∃ (C fI : Addr) (B i newId : String) (bmB : List Value) (qual : Str) (params : Arguments) (scope : Scope) (slf arg : Str) (pp : Nat → Pos) (fd : FuncData) (cc cda : Addr),
    SupC K C fI B i newId bmB f ∧ SupI P K C fI f qual params scope slf arg pp fd cc cda ∧ ExcBaseFacts B newId i bmB ∧ PySem.W.KxsFacts B i ∧ StoreFacts B bmB "object.__setattr__" "object" ∧
    mg x = some (.ref C) ∧ PySem.W.subIn K (.ref C) (.type "BaseException") = some true ∧ PySem.W.typeIn K (.ref C) = some (.type "type") ∧ PySem.W.keepIn K (.ref C) = true
/-- a class without own __init__ -/
structure SupM (K : PySem.W.Frag) (mg : Str → Option Value) (x : Str) : Prop where
  ex : ∃ C : Addr, mg x = some (.ref C) ∧ PySem.W.excIn K C [.type "ValueError", .type "Exception", .type "BaseException", .type "object"] "ValueError.__new__" = true ∧ PySem.W.keepIn K (.ref C) = true ∧
    PySem.W.subIn K (.ref C) (.type "BaseException") = some true ∧ PySem.W.typeIn K (.ref C) = some (.type "type")
section
variable {X : Cx} {W : XK} {st : Stmt} {rest sa sb : List Stmt} {e c : Expr} {es : List Expr} {pos p : Pos} {x : Str} {K : PySem.W.Frag}
theorem ps_nox {t : TS} (h : PS X.nox st t) : PS X st t := ⟨fun pins s σ H D I hw => wpAny_mono (h.run pins s σ H D (I.wish _) hw) (fun _ _ q => SP.unwish q) fun _ _ z => False.elim z⟩
theorem pux_of {w : WS} (h : PUS X.nox st w) : PUX X W st (fun _ => w) := by
  obtain ⟨t, p, s⟩ := h.ex
  exact ⟨t, ps_nox p, fun σ F H E R Dd Dv I q k _ => s σ F H E Dd Dv I q k⟩
theorem puxs_of {w : WS} (h : PUSs X.nox rest w) : PUXs X W rest (fun _ => w) := by
  obtain ⟨t, p, s⟩ := h.ex
  exact ⟨t, p.nox, fun σ F H E R Dd Dv I q k _ => s σ F H E Dd Dv I q k⟩
def xSeq (w u : WSX) : WSX := fun R Dd E => w R { Dd with nx := u R Dd } E
theorem puxs_cons {w u : WSX} (h1 : PUX X W st w) (h2 : PUXs X W rest u) : PUXs X W (st :: rest) (xSeq w u) := by
  obtain ⟨t1, p1, s1⟩ := h1.ex
  obtain ⟨t2, p2, s2⟩ := h2.ex
  exact ⟨_, pss_cons p1 p2, fun σ F H E R Dd Dv I q k kx => s1 σ F H E R _ _ I q ⟨fun F' H' σ' E' I' x n => s2 σ' F' H' E' R Dd Dv I' n (k.step x) (kx.step x), k.bk, k.ct, k.rt⟩ kx⟩
theorem puxs_one {w : WSX} (h1 : PUX X W st w) : PUXs X W [st] w := by
  obtain ⟨t1, p1, s1⟩ := h1.ex
  exact ⟨_, pss_one p1, s1⟩
def xIf (wc : WT) (wa wb : WSX) : WSX := fun R Dd E => wc E fun z E1 => if z = true then wa R Dd E1 else wb R Dd E1
theorem pux_if {wc : WT} {wa wb : WSX} (hc : PUT X.nox c wc) (ha : PUXs X W sa wa) (hb : PUXs X W sb wb) : PUX X W (.If c sa sb pos) (xIf wc wa wb) := by
  obtain ⟨tc, pc, sc⟩ := hc.ex
  obtain ⟨ta, pa, sa'⟩ := ha.ex
  obtain ⟨tb, pb, sb'⟩ := hb.ex
  refine ⟨_, ps_if pc.nox pa pb, fun σ F H E R Dd Dv I q k kx => ?_⟩
  refine sc σ F H E _ _ I q fun z F1 H1 E1 I1 X1 q1 => ?_
  cases z with
  | true =>
    rw [if_pos rfl] at q1 ⊢
    exact sa' σ F1 H1 E1 R Dd Dv I1 q1 (k.step X1.s) (kx.step X1.s)
  | false =>
    rw [if_neg Bool.false_ne_true] at q1 ⊢
    exact sb' σ F1 H1 E1 R Dd Dv I1 q1 (k.step X1.s) (kx.step X1.s)
/-! ### raise -/
def xRaiseM (x : Str) : WSX := fun R _ _ => R (.msg x)
theorem pux_raiseM {m : Str} {j : Nat} {p2 : Pos} (tk : Takes X fun cls d _ H => W cls d H) (h : SupM X.K X.mg x) (hc : X.calm = true := by rfl) (hg : Gl X x := by rfl) (hdb : (x == ("__debug__" : Str)) = false := by decide) :
    PUX X W (.Raise (some (.Call (.Name x p) [.Constant (.str m) j p2] [] pos)) none pos') (xRaiseM x) := by
  obtain ⟨C, hm, hx, hk, hb, ht⟩ := h.ex
  exact ⟨_, ps_raise hc tk (pmk_own PySem.F.excBase_ValueError hx hm hk (raises_own hb ht) hg hdb), fun σ F H E R Dd Dv I q k kx => kx.to _ _ F H σ E (.msg x) (ExtS.refl _ _ _ _) I.sub ⟨C, hm, rfl, rfl⟩ q⟩
def xRaiseV (x f : Str) (w : WE) : WSX := fun R _ E => w E fun y _ => onD y fun d => R (.val x f d)
theorem pux_raiseV {f : Str} {k : Nat} {w : WE} (tk : Takes X fun cls d _ H => W cls d H) (h : SupN X.prog X.K X.mg x f) (msup : X.mg "super" = none) (hr : Room (k + 1) X.A) (ha : PU X.nox e w) (hc : X.calm = true := by rfl) (hg : Gl X x := by rfl) (hdb : (x == ("__debug__" : Str)) = false := by decide)
    (he : starEach [e] X.env = (false, eval e X.env) :: starEach [] X.env := by rfl) (hpl : (backTo pos (starEach [] X.env)).any (·.1) = false := by rfl) :
    PUX X W (.Raise (some (.Call (.Name x p) [e] [] pos)) none pos') (xRaiseV x f w) := by
  obtain ⟨C, fI, B, i, newId, bmB, qual, params, scope, slf, arg, pp, fd, cc, cda, T, S, FB, KF, SF, hm, hb, ht, hk⟩ := h.ex
  obtain ⟨ta, pa, sa⟩ := ha.ex
  refine ⟨_, ps_raise hc tk (pmk_sup T S FB KF SF hb ht hk msup hr hg hm (pa_cons pa.nox pa_nil he) hdb he hpl), fun σ F H E R Dd Dv I q k kx => ?_⟩
  refine sa σ F H E _ _ I q fun v F1 H1 E1 y I1 X1 r1 q1 => ?_
  obtain ⟨d, rfl, q2⟩ := onD_of q1
  refine ⟨v, rfl, fun dx hdx => ?_⟩
  have hF : F1 dx = none := I1.sub.free hdx
  refine kx.to _ _ F1 _ σ E1 (.val x f d) (X1.s.trans ⟨Same.refl _, fun _ _ z => .inl z, fun b o z _ => by rw [upd_ne (ne_of_none z hdx)]; exact z, fun b o z => ⟨o, by rw [upd_ne (ne_of_none z hdx)]; exact z⟩, fun _ m => .inl m⟩)
    (fun b o z => by rw [upd_ne (ne_of_none z hF)]; exact I1.sub b o z) ⟨C, dx, v, hm, rfl, rfl, upd_same, r1⟩ q2
/-! ### a call of a def that may raise -/
abbrev PX := List D → (D → Prop) → (XD → Prop) → Prop
def spX (K : PySem.W.Frag) (mg : Str → Option Value) (n : Nat) (f : PX) : Sp := fun vs H Q Ew => vs.length = n ∧ ∃ F ds R RX, Same F H ∧ DpAll K F vs ds ∧ f ds R RX ∧
  (∀ v F' H' d, Same F F' → Same F' H' → Same H H' → (∀ b o, F' b = some o → F b = some o ∨ H b = none) → Dp K F' v d → R d → Q v H') ∧
  ∀ cls o F' H' xd, Same F F' → Same F' H' → Same H H' → (∀ b o, F' b = some o → F b = some o ∨ H b = none) → XRel K mg F' H' cls o xd → RX xd → Ew cls o H'
structure HasX (P : Program) (w : World) (K : PySem.W.Frag) (mg : Str → Option Value) (base : Heap) (x : Str) (k : Nat) (ps : List Str) (sp : Sp) : Prop where
  ex : ∃ f fd, mg x = some (.ref f) ∧ PySem.W.keepIn K (.ref f) = true ∧ Binds K fd ps [] ∧ FnOk P w K mg base (L2.CX P w) k f fd ps sp
theorem same_extS {F H F' H' : Hp} {σ : L2.St} {E : Env'} (f1 : Same F F') (f3 : Same H H') (f4 : ∀ b o, F' b = some o → F b = some o ∨ H b = none) : ExtS F H F' H' σ E σ E := (Ext.grow f1 f3 f4).s
def xCall (f : PX) (w : WA) : WSX := fun R Dd E => w E fun xs E1 => onO (frz xs) fun ds => f ds (fun _ => Dd.nx E1) R
theorem pux_call {n k : Nat} {f : PX} {ps : List Str} {w : WA} (tk : Takes X fun cls d _ H => W cls d H) (h : HasX X.prog X.w X.K X.mg X.base x k ps (spX X.K X.mg n f)) (hr : Room k X.A) (ha : PUA X.nox (e :: es) w) (hn : ∀ ds R RX, f ds R RX → ds.length = n := by exact fun _ _ _ h => h.1)
    (hg : Gl X x := by rfl) (hdb : (x == ("__debug__" : Str)) = false := by decide) (he : starEach (e :: es) X.env = (false, eval e X.env) :: starEach es X.env := by rfl) (hpl : (backTo pos (starEach es X.env)).any (·.1) = false := by rfl)
    (hs : swapsWith (.Call (.Name x p) (e :: es) [] pos) none pos'.line X.env = pure false := by rfl) :
    PUX X W (.Expr (.Call (.Name x p) (e :: es) [] pos) pos') (xCall f w) := by
  obtain ⟨fa, fd, hm, hk, hb, Fo⟩ := h.ex
  obtain ⟨t, pt, sa⟩ := ha.ex
  have pt' : PA X (e :: es) t := ⟨fun pos pins s σ H Q I hw => wpAny_mono (pt.run pos pins s σ H Q (I.wish _) hw) (fun _ _ ⟨v, H', I', r, q⟩ => ⟨v, H', I'.unwish, r, q⟩) fun _ _ z => False.elim z⟩
  refine ⟨_, ps_expr (pe_call Fo hr hg hm hk hb .nil (passes_call tk fun _ _ _ _ z => z) pt' hdb he hpl) hs, fun σ F H E R Dd Dv I q k kx => ?_⟩
  refine sa σ F H E _ _ I q fun vs F1 H1 E1 xs I1 X1 r1 q1 => ?_
  obtain ⟨ds, e1, q2⟩ := onO_of q1
  have hd := frz_dpa r1 e1
  rw [List.append_nil]
  exact ⟨by rw [dpa_len hd]; exact hn _ _ _ q2, F1, ds, _, _, I1.sub, hd, q2, fun v F2 H2 d f1 f2 f3 f4 r q3 => k.nx F2 H2 σ E1 (I1.grow f1 f3 f2 f4) (X1.s.trans (same_extS f1 f3 f4)) q3,
    fun cls o F2 H2 xd f1 f2 f3 f4 r q3 => kx.to cls o F2 H2 σ E1 xd (X1.s.trans (same_extS f1 f3 f4)) f2 r q3⟩
end
/-! ### a def's promise by its body -/
section
variable {P : Program} {w : World} {K : PySem.W.Frag} {mg : Str → Option Value} {base : Heap}
theorem fn_x {x qual : Str} {params : Arguments} {body : List Stmt} {scope : Scope} {kws : List (Str × V)} {f : Addr} {fd : FuncData} {N ps : List Str} {k n : Nat} {p : PX} {dvs : List V} (Fd : FunD K x qual params body scope dvs kws f fd) (S : FnScope N ps scope) (hn : ps.length = n)
    (hb : ∀ (cdv : Value) (A : Around) (outer : List Env) (s : Shared) (H : Hp) (E : XK), Room k (A.deeper (envOfC qual scope s.heap.objs.size f cdv)) → ∃ w', PUXs (cxOf (L2.CX P w) P w K mg base N qual scope f cdv A outer s H E) E body w' ∧ ∀ ds R RX, ds.length = n → p ds R RX → w' RX (endD R) (startE N.length ds)) :
    FnOk P w K mg base (L2.CX P w) (k + 1) f fd ps (spX K mg n p) := by
  refine Fd.ok S (fun vs H Q E h => h.1.trans hn.symm) fun cdv A outer s H vs Q E hr hsp => ?_
  obtain ⟨hl, F, ds, R, RX, sub, hd, hp, hq, hx⟩ := hsp
  obtain ⟨w', pw, hw⟩ := hb cdv A outer s H E hr
  obtain ⟨t, pt, st⟩ := pw.ex
  refine ⟨t, pt, ?_⟩
  refine st _ F H _ RX (endD R) _ (start_env N sub hd) (hw ds R RX (by rw [← dpa_len hd]; exact hl) hp) ⟨fun F' H' σ' E' I' X' q => ?_, fun _ _ _ _ _ _ q => q.elim, fun _ _ _ _ _ _ q => q.elim, fun v H' d E' r q => ?_⟩ ⟨fun cls o F' H' σ' E' xd x s r q => ?_⟩
  · exact hq .non F' H' .none X'.fz I'.sub (fun b o e => X'.keep b o e noMine) X'.new .non q
  · obtain ⟨F', h1, h2, h3, h4, h5, h6, h7⟩ := r.ex
    refine hq v F' H' d h2 h1 (fun b o e => h4 b o e noMine) (fun b o e => ?_) h6 q
    rcases h3 b o e with z | z | z
    · exact .inl z
    · exact .inr z
    · exact absurd z noMine
  · exact hx cls o F' H' xd x.fz s (fun b u e => x.keep b u e noMine) x.new r q
end
end AF

set_option Elab.async false
set_option linter.all false
set_option maxRecDepth 100000
set_option maxHeartbeats 2000000
/-! AF18: repr of data, where the guards that run are known. -/
namespace AF
open PySem PySem.Spec PyProof.Rows L2
def isEmp : D → Bool
  | .dict [(.bool true, .none)] => true
  | _ => false
def reprD (d : D) : Str := if isEmp d = true then (PyData.dict []).shown else d.shown
def reprOk (d : D) : Bool := isEmp d || (SeqAt.shaped d && decide (d.depth ≤ 50) && d.showable && decide (d.shown.length ≤ sizeLine))
theorem isEmp_eq {d : D} (h : isEmp d = true) : d = .dict [(.bool true, .none)] := by
  unfold isEmp at h
  split at h
  · rfl
  · cases h
theorem emp_size : (PyData.dict []).shown.length ≤ sizeLine := by decide +kernel
theorem dp_emp {K : PySem.W.Frag} {H : Hp} {v : V} (h : Dp K H v (.dict [(.bool true, .none)])) : ∃ a, v = .ref a ∧ H a = some (.dK []) := by
  generalize e : (PyData.dict [(.bool true, .none)] : D) = d at h
  cases h with
  | scr hs =>
    rename_i a ns
    cases ns <;> cases e
  | emp hs => exact ⟨_, rfl, hs⟩
  | _ => cases e
section
variable {X : Cx}
def rRepr (K : PySem.W.Frag) : List V → Hp → VK → Prop := fun xs H Q => ∃ v d, xs = [v] ∧ Dp K H v d ∧ reprOk d = true ∧ Q (.str (reprD d)) H
theorem cr_repr (hg : X.A.guards = some []) (hu : X.A.units + 64 < cLine) : CallR X (.builtin "repr") (rRepr X.K) := by
  intro pins s σ H xs us Q I r h
  obtain ⟨v, d, rfl, hd, ok, q⟩ := h
  obtain ⟨u, rfl, ru⟩ : ∃ u, us = [u] ∧ RelV v u := by
    cases r with
    | cons r t => cases t; exact ⟨_, rfl, r⟩
  have fin : ∀ (h' : Heap) (z : Str) (t tk : Tok), z = reprD d → (∀ b o, s.heap.get? b = some o → h'.get? b = some o) → EP X pins σ Q (.str z t) { s with heap := h', toks := tk } := fun h' z t tk e k => by
    subst e
    exact ⟨.str _, H, I.kept k, ⟨_, rfl⟩, q⟩
  by_cases he : isEmp d = true
  · have e := isEmp_eq he
    subst e
    obtain ⟨a, ev, ha⟩ := dp_emp hd
    · subst ev
      obtain rfl : u = Value.ref a := ru
      obtain ⟨_, hsys, vs, kv, o, es, ep, ho, hx, hdt, _, hp, _⟩ := I.hok a _ ha
      cases kv
      have hes : es.toList = [] := by
        generalize es.toList = l at hp
        cases hp
        rfl
      have rd : PySem.Reads s.heap (.ref a) (.dict []) (a :: [] ++ []) := .dict ho hx.1 hdt (by rw [hes]; exact .nil) (by rw [hes]; exact .nil)
      have hns : sysModules ∉ (a :: [] ++ [] : List Addr) := fun z => by
        have z : sysModules = a := by simpa using z
        rw [← z] at hsys
        simp at hsys
      exact PySem.repr_of_reads' rd (by decide +kernel) (fun _ => hns) hg (by show X.A.units + 2 < cLine; omega) (fun _ _ z => z) (fun h' u tk k => fin h' _ u tk (by unfold reprD; rw [if_pos he]) k) emp_size
  · have ok : (SeqAt.shaped d && decide (d.depth ≤ 50) && d.showable && decide (d.shown.length ≤ sizeLine)) = true := by
      unfold reprOk at ok
      rw [Bool.eq_false_iff.mpr he] at ok
      exact ok
    simp only [Bool.and_eq_true, decide_eq_true_eq] at ok
    obtain ⟨⟨⟨c1, c2⟩, c3⟩, c4⟩ := ok
    have er : reprD d = d.shown := by unfold reprD; rw [if_neg he]
    obtain ⟨as, rd⟩ := L2.Dp.reads I d v u (Dp.old c1 hd) ru
    have nd : d.hasDict = true → sysModules ∉ as := PySem.PyData.noDict_hsm (PySem.PyData.hasDict_of_canLay d (SeqAt.canLay_of_shaped c1))
    cases rd with
    | none => exact PySem.P.repr_of_none (fin s.heap _ _ _ (er ▸ rfl) fun _ _ z => z)
    | bool b => exact PySem.P.repr_of_bool (fin s.heap _ _ _ (er ▸ rfl) fun _ _ z => z)
    | int i t => exact PySem.P.repr_of_int (by simpa [PyData.showable] using c3) (fin s.heap _ _ _ (er ▸ rfl) fun _ _ z => z)
    | str x t => exact PySem.P.repr_of_str (fin s.heap _ _ _ (er ▸ rfl) fun _ _ z => z) (by simpa [PyData.shown] using c4)
    | list h1 h2 h3 h4 => exact PySem.repr_of_reads' (.list h1 h2 h3 h4) c3 nd hg (by omega) (fun _ _ z => z) (fun h' u tk k => fin h' _ u tk er.symm k) c4
    | tuple h1 h2 h3 h4 => exact PySem.repr_of_reads' (.tuple h1 h2 h3 h4) c3 nd hg (by omega) (fun _ _ z => z) (fun h' u tk k => fin h' _ u tk er.symm k) c4
    | dict h1 h2 h3 h4 h5 => exact PySem.repr_of_reads' (.dict h1 h2 h3 h4 h5) c3 nd hg (by omega) (fun _ _ z => z) (fun h' u tk k => fin h' _ u tk er.symm k) c4
theorem guards_deeper {A : Around} {env : Env} (h : A.guards = some []) : (A.deeper env).guards = some [] := by
  first | exact h | (simp [Around.deeper, h])
theorem guards_mark {A : Around} {v : Option Value} (h : A.guards = some []) : (A.mark v).guards = some [] := by
  first | exact h | (simp [Around.mark, h])
theorem guards_caller : callerA.guards = some [] := by first | rfl | decide +kernel
end
end AF

set_option Elab.async false
set_option linter.all false
set_option maxRecDepth 100000
set_option maxHeartbeats 4000000
/-! AF19: met(lambda: ..): a lambda made, handed to a def, called there in a try. -/
namespace AF
open PySem PySem.Spec PyProof.Rows L2
/-- a table of code objects of the name q, over H -/
structure TabH (H : Hp) (P : Addr) (q : Str) (ps : Array Value) : Prop where
  at_ : H P = some (.tbl ps)
  ok : PySem.TriplesOk ps.toList
  told : TabF H q ps
/-- the heap behind a lambda's making: nothing new, or a code object and its row in the table -/
inductive Lam1 (H : Hp) (P : Addr) (q : Str) (ps : Array Value) (c' : Addr) : Hp → Prop
  | hit (h : H c' = some (LamX.CodeO c' q)) (hF : ∀ F : Hp, TabF F q ps → F c' = some (LamX.CodeO c' q)) : Lam1 H P q ps c' H
  | new (more : Array Value) (h : H c' = none) (ok : PySem.TriplesOk (ps ++ more).toList) (told : ∀ F : Hp, Same F H → TabF F q ps → TabF (upd F c' (LamX.CodeO c' q)) q (ps ++ more)) : Lam1 H P q ps c' (upd (upd H P (.tbl (ps ++ more))) c' (LamX.CodeO c' q))
theorem Lam1.code {H H1 : Hp} {P c' : Addr} {q : Str} {ps : Array Value} (h : Lam1 H P q ps c' H1) : H1 c' = some (LamX.CodeO c' q) := by
  cases h with
  | hit h _ => exact h
  | new more h ok told => exact upd_same
section
variable {X : Cx} {pins : List (Addr × Obj)} {σ : L2.St} {H : Hp} {s : Shared}
theorem lam_made {c P : Addr} {q : Str} {ps : Array Value} {params : Arguments} {body : Expr} {scope : Scope} {pos : Pos} {E : Value → Shared → Prop} {Q : Value → Shared → Prop} (I : Inv X pins σ H s) (TB : LamX.TabB X.base X.mg c P) (hcode : X.env.code = .ref c) (hq : q = X.env.qual ++ "<lambda>")
    (T : TabH H P q ps) (hdef : defaultsOf params X.env = ([], [])) (hfree : ∀ y ∈ scope.names, y.2 = .free → ∃ c, X.env.cells.lookup y.1 = some c)
    (h : ∀ (f c' : Addr) (pm ctv : Value) (H1 : Hp) (s' : Shared), Inv X pins σ H1 s' → Lam1 H P q ps c' H1 →
      s'.heap.get? f = some (PySem.W.kla_obj "<lambda>" q params body scope (cloFrom X.env.cells scope.names []) pm c' ctv) → H1 f = none → f ∉ frs X.stack → s.heap.objs.size ≤ f → Q (.ref f) s') :
    wpAny (model X.prog X.w) X.A (eval (.Lambda params body scope pos) X.env) Q E s := by
  subst hq
  refine PySem.W.kla_eval hdef ?_
  have hP' : s.heap.get? P = some { cls := .none, data := .fields ps } := I.hok P _ T.at_
  have away : ∀ f, s.heap.objs.size ≤ f → f ∉ frs X.stack := fun f hf z => by
    rcases List.mem_cons.mp (I.stkSub _ z) with e | e
    · exact absurd (Nat.lt_of_lt_of_le I.lt (e ▸ hf)) (Nat.lt_irrefl _)
    · exact I.nofs hf e
  cases hc : codeAmong pos ps.toList with
  | some cv =>
    obtain ⟨c', rfl, hco⟩ := T.told pos cv hc
    exact PySem.W.kla_makeFunctionHit (mg := X.mg) (c := c) (P := P) (ps := ps) (closure_ok hfree) I.ok.glob (I.mod.glob.keeps I.bk) hcode (TB.code.keeps I.bk) hP' T.ok hc (TB.bm.keeps I.bk) fun ctv h' tk hx hsz =>
      h h'.objs.size c' ((X.mg "__name__").getD .none) ctv H _ (I.kept (t' := tk) fun b o e => Heap.get?_push_of_some _ (hx b o e)) (.hit hco fun F tF => by
          obtain ⟨c2, e2, h2⟩ := tF pos _ hc
          cases e2
          exact h2) (Heap.get?_push_size _ rfl) (I.hok.fresh hsz) (away _ hsz) hsz
  | none =>
    refine PySem.W.kla_makeFunction (mg := X.mg) (c := c) (P := P) (ps := ps) (closure_ok hfree) I.ok.glob (I.mod.glob.keeps I.bk) hcode (TB.code.keeps I.bk) hP' T.ok hc TB.gP (TB.bm.keeps I.bk) fun c' ctv h' tk hx hge hlt hrec htb => ?_
    obtain ⟨_, oc, vs, t, e2, hoc, hd, hv⟩ := hrec
    cases e2
    have nC : H c' = none := I.hok.fresh hge
    have big : s.heap.objs.size ≤ h'.objs.size := Nat.le_trans hge (Nat.le_of_lt hlt)
    have eL : (ps ++ #[rawInt pos.line, rawInt pos.col, .ref c']).toList = ps.toList ++ [rawInt pos.line, rawInt pos.col, .ref c'] := by simp
    refine h h'.objs.size c' ((X.mg "__name__").getD .none) ctv _ _ (LamX.inv_table (t' := tk) (more := #[rawInt pos.line, rawInt pos.col, .ref c'])
      (h' := h'.push (PySem.W.kla_obj "<lambda>" (X.env.qual ++ "<lambda>") params body scope (cloFrom X.env.cells scope.names []) ((X.mg "__name__").getD .none) c' ctv)) I T.at_ (fun b o hb e => Heap.get?_push_of_some _ (hx b o hb e)) (Heap.get?_push_of_some _ htb) hge
      ⟨oc, vs, t, Heap.get?_push_of_some _ hoc, hd, hv⟩) (.new _ nC (by rw [eL]; exact PySem.TriplesOk_snoc _ _ _ _ T.ok) fun F sub tF p' cv hcv => ?_) (Heap.get?_push_size _ rfl) ?_ (away _ big) big
    · rw [eL] at hcv
      rcases LamX.among_app _ T.ok hcv with z | z
      · obtain ⟨c0, e1, e2⟩ := tF p' cv z
        exact ⟨c0, e1, by rw [upd_ne (ne_of_none e2 (sub.free nC))]; exact e2⟩
      · exact ⟨c', z, upd_same⟩
    · rw [upd_ne (Nat.ne_of_gt hlt), upd_ne (Nat.ne_of_gt (Nat.lt_of_lt_of_le (Heap.lt_size hP') big))]
      exact I.hok.fresh big
/-- x(lambda: body): the reading -/
def tLamP (P : Addr) (q : Str) (TT : (XK → Hp → VK → Prop) → Hp → VK → Prop) (t : XK → TE) : TE := fun σ H Q => ∃ ps, TabH H P q ps ∧ ∀ c' H1, Lam1 H P q ps c' H1 → TT (fun E H' Q' => t E σ H' Q') H1 Q
theorem pe_lamP {TT : (XK → Hp → VK → Prop) → Hp → VK → Prop} {x a q : Str} {g c P : Addr} {k : Nat} {pg : Arguments} {bg : List Stmt} {sg : Scope} {dV kV doc pm cdv ct oc : Value} {an od : Option Addr} {osl : Array (Option Value)} {Ng : List Str}
    {params : Arguments} {body : Expr} {scope : Scope} {t : XK → TE} {p lpos pos : Pos} (hg : Gl X x) (hm : X.mg x = some (.ref g)) (hk : PySem.W.keepIn X.K (.ref g) = true)
    (lk : X.K.lookup g = some ⟨oc, od, .func (PySem.W.fnOf x x pg bg sg dV kV doc pm an cdv ct), osl⟩) (hcg : PySem.W.codeIn X.K cdv x = true) (hb : L2.Binds X.K (PySem.W.fnOf x x pg bg sg dV kV doc pm an cdv ct) [a] []) (Sg : FnScope Ng [a] sg) (hNg : Ng[0]? = some a) (hva : Vis sg a)
    (hG : LamX.GivesTo X Ng x sg g cdv bg a q TT) (TB : LamX.TabB X.base X.mg c P) (hcode : X.env.code = .ref c) (hq : q = X.env.qual ++ "<lambda>") (hr : Room (k + 2) X.A) (L : LamX.LamS X.env.scope scope) (hdef : defaultsOf params X.env = ([], []))
    (hbind : ∀ (q : Str) (cl : List (Str × Addr)) (pm cv ctv : Value), bindArgs (PySem.W.kla_fn "<lambda>" q params body scope cl pm cv ctv) ⟨[], []⟩ = pure [])
    (hbody : ∀ (A : Around) (outer : List Env) (s : Shared) (H : Hp) (E : XK) (f c' : Addr), Room k (A.deeper (LamX.lamEnv X scope s.heap.objs.size f c')) → PE (LamX.lamCx X A outer s H E scope f c') body (t E))
    (hdb : (x == ("__debug__" : Str)) = false := by decide) (hd : (a == ("__debug__" : Str)) = false := by decide) (hcd : (a == ("__classdict__" : Str)) = false := by decide) :
    PE X (.Call (.Name x p) [.Lambda params body scope lpos] [] pos) (tLamP P q TT t) := by
  refine ⟨fun pins s σ H Q I h => ?_⟩
  obtain ⟨ps, hT, h⟩ := h
  refine wpAny_Call_Name_kw (ld_glob I hg hm ?_ hdb)
  refine PySem.W.callWith_K (h₀ := X.base) I.ok.mod.kin hk ?_ (by rfl) (by rfl)
  show wpAny _ _ (spliced ((false, eval (.Lambda params body scope lpos) X.env) :: backTo pos (starEach [] X.env))) _ _ s
  refine Calls.spliced_cons (lam_made I TB hcode hq hT hdef (L.has I.ok) fun f c' pm' ctv H1 s' I1 l1 hf hfn hfr _ => ?_)
  subst hq
  refine Calls.spliced_nil ⟨I1.kIn, ?_⟩
  have rc : codeAny (model X.prog X.w) X.A (.call (.ref g) ⟨[.ref f], []⟩) (CR C8.CX0 X.stack X.prog X.w H1 s' Q C8.E0) s' := by
    refine LamX.run_ofS (N := Ng) (ps := [a]) (us := [.ref f]) (vs := [.ref f]) lk hcg Sg hr I1.env0 (hb s' [.ref f] I1.kIn rfl) (.cons rfl .nil) rfl fun hr' => ?_
    obtain ⟨t', ht', hq'⟩ := hG f c' s' H1 Q (fun E H' Q' => t E σ H' Q') (fun W pn xe E p1 p2 tk hW => LamX.pe_act (i := 0) I1 L hf hfn hfr (hbind _ _ _ _ _) tk hW hr' (fun A outer s H hr2 => hbody A outer s H E f c' hr2) hNg hva hd hcd) l1.code (h c' H1 l1)
    exact ⟨t', ht'.nox, hq'⟩
  refine wpAny_call (codeAny_mono rc fun r s2 hq => ?_)
  cases r with
  | error e => exact (show False from hq).elim
  | ok fl =>
    cases fl with
    | ret u => exact I1.after hq
    | next => exact False.elim hq
    | brk => exact False.elim hq
    | cont => exact False.elim hq
end
end AF

set_option Elab.async false
set_option linter.all false
set_option maxRecDepth 100000
set_option maxHeartbeats 4000000
/-! AF20: a def that calls what it got, in a try with two clauses, and tells the word for the error. -/
namespace AF
open PySem PySem.Spec PyProof.Rows L2
/-- what the clauses make of an error: the repr of its field, or the word -/
def Emet (K : PySem.W.Frag) (CN CO : Addr) (f wd : Str) (Q : VK) : XK := fun cls o H' =>
  ∃ b, PySem.W.exmOne K cls (.ref CN) = some b ∧
    (b = true → ∃ (dd : Addr) (v : V) (d : D) (F : Hp), cls = .ref CN ∧ o = some dd ∧ H' dd = some (.xd [(f, v)]) ∧ Same F H' ∧ Dp K F v d ∧ reprOk d = true ∧ Q (.str (reprD d)) H') ∧
    (b = false → ∃ b', PySem.W.exmOne K cls (.ref CO) = some b' ∧ (b' = true → Q (.str wd) H') ∧ (b' = false → False))
def TTmet (K : PySem.W.Frag) (CN CO : Addr) (f wd fine : Str) : (XK → Hp → VK → Prop) → Hp → VK → Prop := fun tl H Q =>
  tl (Emet K CN CO f wd Q) H fun _ H' => Q (.str fine) H'
theorem takes_len {X : Cx} {W : WX} (t : Takes X W) : Takes X fun cls d σ H => σ.length = X.N.length → W cls d σ H := fun u s' ⟨a, B, sI, pins, σ, H, cls, d, e, I, nb, up, sky, na, os, ag, w⟩ =>
  t u s' ⟨a, B, sI, pins, σ, H, cls, d, e, I, nb, up, sky, na, os, ag, w I.len⟩
theorem met_gives {X : Cx} {x a er n m q f wd fine : Str} {sg : Scope} {g CN CO : Addr} {cdg : Value} {k j j2 : Nat} {p1 p2 p3 p4 p5 p6 p7 p8 p9 pa pb pc pd pe pf pg ph : Pos}
    (hgn : sg.names.lookup n = some .globalImplicit) (hmn : X.mg n = some (.ref CN)) (hdn : (n == ("__debug__" : Str)) = false)
    (hgm : sg.names.lookup m = some .globalImplicit) (hmm : X.mg m = some (.ref CO)) (hdm : (m == ("__debug__" : Str)) = false)
    (hgr : sg.names.lookup ("repr" : Str) = some .globalImplicit) (hmr : X.mg "repr" = none) (her : sg.names.lookup er = some .local) (hner : a ≠ er) (hde : (er == ("__debug__" : Str)) = false) (hce : (er == ("__classdict__" : Str)) = false)
    (T : XfC X.K CN) (hno : PySem.W.findIn X.K (.ref CN) f = some none) (hgd : X.A.guards = some []) (hr : Room (k + 1) X.A) :
    LamX.GivesTo X [a, er] x sg g cdg
      [.Try [.Expr (.Call (.Name a p1) [] [] p2) p3]
        [.ExceptHandler (some (.Name n p4)) (some er) [.Return (some (.Call (.Name "repr" p5) [.Attribute (.Name er p6) f p7] [] p8)) p9] pa,
         .ExceptHandler (some (.Name m pb)) none [.Return (some (.Constant (.str wd) j pc)) pd] pe] [] [] pf,
       .Return (some (.Constant (.str fine) j2 pg)) ph] a q (TTmet X.K CN CO f wd fine) := by
  intro fa c' s H Q tl act hc h
  generalize eZ : (cxOf C8.CX0 X.prog X.w X.K X.mg X.base [a, er] x sg g cdg X.A X.stack s H C8.E0).nox = Z at *
  have gl : ∀ {y : Str}, sg.names.lookup y = some .globalImplicit → Gl Z y := fun {y} hy => by
    rw [← eZ]
    exact hy
  have eK : Z.K = X.K := by rw [← eZ] <;> rfl
  have eM : Z.mg = X.mg := by rw [← eZ] <;> rfl
  have eN : Z.N = [a, er] := by rw [← eZ] <;> rfl
  have gd : Z.A.guards = some [] := by rw [← eZ]; exact guards_deeper hgd
  have un : Z.A.units + 64 < cLine := by rw [← eZ]; exact (hr.deeper _).units
  have hN1 : Z.N[1]? = some er := by rw [eN] <;> rfl
  have hZs : Z.env.scope = sg := by rw [← eZ] <;> rfl
  have hv1 : Vis Z.env.scope er := by rw [hZs]; exact .inl her
  let ts1 : Suite := fun a cls d => tRet (tCB (rRepr Z.K) (tCons (tXf a cls d CN f (tVar 1)) tNil))
  let ts2 : Suite := fun a cls d => tRet (tC (.str wd))
  have st1 : SuiteOk Z [.Return (some (.Call (.Name "repr" p5) [.Attribute (.Name er p6) f p7] [] p8)) p9] ts1 := fun a oe cls d pn hz hf =>
    pss_one (ps_ret (pe_callB (cr_repr (guards_mark gd) (by exact un)) (gl hgr) (by exact (congrFun eM _).trans hmr) (by rfl) (pa_cons (pe_xf (X := Z) (C := CN) (by rw [eK]; exact T) (by rw [eK]; exact hno) hz hf (pe_var (i := 1) hN1 hv1 hde hce)) pa_nil)))
  have st2 : SuiteOk Z [.Return (some (.Constant (.str wd) j pc)) pd] ts2 := fun a oe cls d pn hz hf => pss_one (ps_ret pe_str)
  refine ⟨_, pss_cons (ps_try_g (X := Z) (l := [(.ref CN, some 1, ts1), (.ref CO, none, ts2)])
      (tb := fun W D σ H => ∃ Ech : XK, (∀ cls d σ' H', Ech cls d H' → σ'.length = 2 → W cls d σ' H') ∧ σ[0]? = some (some (.ref fa)) ∧ H c' = some (LamX.CodeO c' q) ∧ tl Ech H fun _ H' => D.nx σ H')
      (by rw [← eZ] <;> rfl) (by rw [← eZ] <;> rfl) (by rw [eN]; simpa using hner) LamX.takes0 (fun W pn xe tk _ => ?_)
      (.as hN1 (by rw [← eZ]; exact her) ⟨gl hgn, hdn, .inl (by rw [eM]; exact hmn)⟩ st1 (.bare ⟨gl hgm, hdm, .inl (by rw [eM]; exact hmm)⟩ st2 .nil))) (pss_one (ps_ret pe_str)), ?_⟩
  · have hN2 : Z.N.length = 2 := by rw [eN] <;> rfl
    refine ⟨fun pins s' σ H' D I h' => ?_⟩
    obtain ⟨Ech, hW, h1, h2, h3⟩ := h'
    have hp := act (fun cls d σ H => σ.length = Z.N.length → W cls d σ H) pn xe Ech p1 p2 (by rw [← eZ] at tk ⊢; exact takes_len tk) fun cls d σ' H' e el => hW cls d σ' H' e (el.trans hN2)
    have hq := pss_one (ps_expr (pos := p3) hp)
    rw [← eZ] at I
    rw [← eZ]
    exact hq.run pins s' σ H' D I ⟨h1, h2, h3⟩
  · refine ⟨Emet X.K CN CO f wd Q, fun cls d σ' H' he el => ?_, rfl, hc, h⟩
    obtain ⟨b, e1, yes, no⟩ := he
    rw [eK]
    refine ⟨b, e1, fun hb a na => ?_, fun hb => ?_⟩
    · obtain ⟨dd, v, dt, F, ec, eo, hd, sub, hdp, ok, q⟩ := yes hb
      show ts1 a cls d (goneD 1 _) (σ'.set 1 (some (.ref a))) H'
      have h1 : (σ'.set 1 (some (V.ref a)))[1]? = some (some (.ref a)) := by rw [List.getElem?_set_self (by omega)]
      exact ⟨.ref a, h1, rfl, ec, dd, _, v, eo, hd, by simp [List.lookup], v, dt, rfl, by rw [eK]; exact dp_same sub hdp, ok, q⟩
    · obtain ⟨b', e1', yes', no'⟩ := no hb
      exact ⟨b', e1', fun hb a na => yes' hb, fun hb => no' hb⟩
end AF

set_option Elab.async false
set_option linter.all false
set_option maxRecDepth 100000
set_option maxHeartbeats 4000000
/-! AF21: met(lambda: f(..)), read over plain data. -/
namespace AF
open PySem PySem.Spec PyProof.Rows L2
abbrev WL := Env' → (D → Prop) → (XD → Prop) → Prop
/-- what a body read by w does, as a transformer -/
def tBody (K : PySem.W.Frag) (mg : Str → Option Value) (w : WL) (E : XK) : TE := fun σ H Q => ∃ F E0 R RX, EnvD K F H σ E0 ∧ w E0 R RX ∧
  (∀ v F' H' d, EnvD K F' H' σ E0 → Ext F H F' H' σ E0 E0 → Dp K F' v d → R d → Q v H') ∧
  ∀ cls o F' H' xd, EnvD K F' H' σ E0 → Ext F H F' H' σ E0 E0 → XRel K mg F' H' cls o xd → RX xd → E cls o H'
def lCall (f : PX) (w : WA) : WL := fun E0 R RX => w E0 fun xs E1 => E1 = E0 ∧ onO (frz xs) fun ds => f ds R RX
section
variable {X : Cx} {e : Expr} {es : List Expr} {pos p : Pos} {x : Str} {E : XK}
theorem pe_bodyCall {n k : Nat} {f : PX} {ps : List Str} {w : WA} (tk : Takes X fun cls d _ H => E cls d H) (h : HasX X.prog X.w X.K X.mg X.base x k ps (spX X.K X.mg n f)) (hr : Room k X.A) (ha : PUA X.nox (e :: es) w) (hn : ∀ ds R RX, f ds R RX → ds.length = n := by exact fun _ _ _ h => h.1)
    (hg : Gl X x := by rfl) (hdb : (x == ("__debug__" : Str)) = false := by decide) (he : starEach (e :: es) X.env = (false, eval e X.env) :: starEach es X.env := by rfl) (hpl : (backTo pos (starEach es X.env)).any (·.1) = false := by rfl) :
    PE X (.Call (.Name x p) (e :: es) [] pos) (tBody X.K X.mg (lCall f w) E) := by
  obtain ⟨fa, fd, hm, hk, hb, Fo⟩ := h.ex
  obtain ⟨t, pt, sa⟩ := ha.ex
  have pt' : PA X (e :: es) t := ⟨fun pos pins s σ H Q I hw => wpAny_mono (pt.run pos pins s σ H Q (I.wish _) hw) (fun _ _ ⟨v, H', I', r, q⟩ => ⟨v, H', I'.unwish, r, q⟩) fun _ _ z => False.elim z⟩
  have pc := pe_call (p := p) Fo hr hg hm hk hb .nil (passes_call (E := E) tk fun _ _ _ _ z => z) pt' hdb he hpl
  refine ⟨fun pins s σ H Q I h => pc.run pins s σ H Q I ?_⟩
  obtain ⟨F, E0, R, RX, I0, hw, kr, kx⟩ := h
  refine sa σ F H E0 _ _ I0 hw fun vs F1 H1 E1 xs I1 X1 r1 q1 => ?_
  obtain ⟨eE, q2⟩ := q1
  subst eE
  obtain ⟨ds, e1, q2⟩ := onO_of q2
  have hd := frz_dpa r1 e1
  rw [List.append_nil]
  exact ⟨by rw [dpa_len hd]; exact hn _ _ _ q2, F1, ds, R, RX, I1.sub, hd, q2, fun v F2 H2 d f1 f2 f3 f4 r q3 => kr v F2 H2 d (I1.grow f1 f3 f2 f4) (X1.trans (Ext.grow f1 f3 f4)) r q3,
    fun cls o F2 H2 xd f1 f2 f3 f4 r q3 => kx cls o F2 H2 xd (I1.grow f1 f3 f2 f4) (X1.trans (Ext.grow f1 f3 f4)) r q3⟩
/-! ### the def that tells an error -/
def MetBody (a er n m f wd fine : Str) (b : List Stmt) : Prop := ∃ (j j2 : Nat) (p1 p2 p3 p4 p5 p6 p7 p8 p9 pa pb pc pd pe pf pg ph : Pos), b =
      [.Try [.Expr (.Call (.Name a p1) [] [] p2) p3]
        [.ExceptHandler (some (.Name n p4)) (some er) [.Return (some (.Call (.Name "repr" p5) [.Attribute (.Name er p6) f p7] [] p8)) p9] pa,
         .ExceptHandler (some (.Name m pb)) none [.Return (some (.Constant (.str wd) j pc)) pd] pe] [] [] pf,
       .Return (some (.Constant (.str fine) j2 pg)) ph]
structure MetF (K : PySem.W.Frag) (mg : Str → Option Value) (x : Str) (st : Stmt) (a er n m f wd fine : Str) : Prop where
  d : DefAt K mg x st
  sc : FnScope [a, er] [a] (defScope st)
  bi : ∀ {f fd}, FnP K x st f fd → Binds K fd [a] []
  bd : MetBody a er n m f wd fine (defBody st)
  gn : (defScope st).names.lookup n = some .globalImplicit
  gm : (defScope st).names.lookup m = some .globalImplicit
  gr : (defScope st).names.lookup ("repr" : Str) = some .globalImplicit
  le : (defScope st).names.lookup er = some .local
  va : Vis (defScope st) a
  ne : a ≠ er
  dn : (n == ("__debug__" : Str)) = false
  dm : (m == ("__debug__" : Str)) = false
  de : (er == ("__debug__" : Str)) = false
  ce : (er == ("__classdict__" : Str)) = false
  da : (a == ("__debug__" : Str)) = false
  ca : (a == ("__classdict__" : Str)) = false
  mr : mg "repr" = none
  cls : ∃ CN CO : Addr, mg n = some (.ref CN) ∧ mg m = some (.ref CO) ∧ XfC K CN ∧ PySem.W.findIn K (.ref CN) f = some none ∧ PySem.W.exmOne K (.ref CN) (.ref CN) = some true ∧ PySem.W.exmOne K (.ref CO) (.ref CN) = some false ∧ PySem.W.exmOne K (.ref CO) (.ref CO) = some true
/-- what is told of an error -/
def metR (n m f wd : Str) (k : Str → Prop) : XD → Prop
  | .val c g d => c = n ∧ g = f ∧ reprOk d = true ∧ k (reprD d)
  | .msg c => c = m ∧ k wd
def wMet (i : Nat) (P : Addr) (q n m f wd fine : Str) (wl : WL) : WE := fun E Q => E[i]? = some (.tb P q) ∧ wl E (fun _ => Q (.d (.str fine)) E) (metR n m f wd fun z => Q (.d (.str z)) E)
theorem set_same {E : Env'} {i : Nat} {s : Sl} (h : E[i]? = some s) : E.set i s = E := by
  obtain ⟨hl, e⟩ := List.getElem?_eq_some_iff.mp h
  rw [← e]
  exact List.set_getElem_self hl
/-- behind a lambda's making: the env holds; the code object is a frozen one -/
theorem lam1_env {K : PySem.W.Frag} {F H H1 : Hp} {σ : L2.St} {E : Env'} {i : Nat} {P c' : Addr} {q : Str} {ps : Array Value} (I : EnvD K F H σ E) (hs : E[i]? = some (.tb P q)) (ho : σ[i]? = some (some (.ref P))) (hF : F P = none) (hP : H P = some (.tbl ps)) (hok : PySem.TriplesOk ps.toList) (htab : TabF F q ps) (l1 : Lam1 H P q ps c' H1) :
    ∃ F1, EnvD K F1 H1 σ E ∧ Ext F H F1 H1 σ E E ∧ F1 c' = some (LamX.CodeO c' q) := by
  cases l1 with
  | hit h hf => exact ⟨F, I, Ext.refl _ _ _ _, hf F htab⟩
  | new more nC ok told =>
    have nPc : P ≠ c' := ne_of_none hP nC
    have nF : F c' = none := I.sub.free nC
    have atP : upd (upd H P (.tbl (ps ++ more))) c' (LamX.CodeO c' q) P = some (.tbl (ps ++ more)) := by rw [upd_ne nPc, upd_same]
    have z := own_upd (s' := .tb P q) (F' := upd F c' (LamX.CodeO c' q)) (H' := upd (upd H P (.tbl (ps ++ more))) c' (LamX.CodeO c' q)) I hs rfl rfl ho (same_upd nF) (fun b u e => ?_) (fun b u hb e => ?_) (fun b u e => ?_) ⟨_, rfl, ?_, atP, ok, told F I.sub htab⟩ ⟨_, atP⟩
    · rw [set_same hs] at z
      exact ⟨_, z.1, z.2, upd_same⟩
    · by_cases hb : b = c'
      · subst hb
        rw [upd_same] at e ⊢
        exact e
      · rw [upd_ne hb] at e ⊢
        have hbP : b ≠ P := fun y => by rw [y, hF] at e; cases e
        rw [upd_ne hbP]
        exact I.sub b u e
    · rw [upd_ne (ne_of_none e nC), upd_ne hb]
      exact e
    · by_cases hb : b = c'
      · exact .inr (hb ▸ nC)
      · rw [upd_ne hb] at e
        exact .inl e
    · rw [upd_ne nPc]
      exact hF
theorem pu_met {i k : Nat} {st : Stmt} {a er n m f wd fine q : Str} {c P : Addr} {params : Arguments} {body : Expr} {scope : Scope} {lpos : Pos} {wl : WL} (M : MetF X.K X.mg x st a er n m f wd fine) (TB : LamX.TabB X.base X.mg c P) (hcode : X.env.code = .ref c) (hq : q = X.env.qual ++ "<lambda>") (hr : Room (k + 2) X.A) (hgd : X.A.guards = some [])
    (hbody : ∀ (A : Around) (outer : List Env) (s : Shared) (H : Hp) (E : XK) (f c' : Addr), Room k (A.deeper (LamX.lamEnv X scope s.heap.objs.size f c')) → PE (LamX.lamCx X A outer s H E scope f c') body (tBody X.K X.mg wl E))
    (L : LamX.LamS X.env.scope scope := by exact LamX.lamS_by (by decide +kernel)) (hg : Gl X x := by rfl) (hdef : defaultsOf params X.env = ([], []) := by rfl)
    (hbind : ∀ (q : Str) (cl : List (Str × Addr)) (pm cv ctv : Value), bindArgs (PySem.W.kla_fn "<lambda>" q params body scope cl pm cv ctv) ⟨[], []⟩ = pure [] := by exact fun _ _ _ _ _ => rfl) (hdb : (x == ("__debug__" : Str)) = false := by decide) :
    PU X (.Call (.Name x p) [.Lambda params body scope lpos] [] pos) (wMet i P q n m f wd fine wl) := by
  obtain ⟨g, fd, hm, Fd⟩ := M.d
  obtain ⟨oc, od, dV, kV, doc, pm, an, cdv, ct, osl, rfl, lk, hcd, _, _⟩ := Fd.ex
  obtain ⟨CN, CO, mN, mO, T, hno, x1, x2, x3⟩ := M.cls
  obtain ⟨j, j2, p1, p2, p3, p4, p5, p6, p7, p8, p9, pa, pb, pc, pd, pe, pf, pg, ph, hb⟩ := M.bd
  refine ⟨_, pe_lamP (k := k) (q := q) (P := P) (TT := TTmet X.K CN CO f wd fine) (t := fun E => tBody X.K X.mg wl E) (a := a) (Ng := [a, er]) hg hm Fd.kp lk hcd (M.bi Fd) M.sc rfl M.va ?_ TB hcode hq hr L hdef hbind hbody hdb M.da M.ca, ?_⟩
  · rw [hb]
    exact met_gives (k := k + 1) M.gn mN M.dn M.gm mO M.dm M.gr M.mr M.le M.ne M.de M.ce T hno hgd hr
  · intro σ F H E Qd Q I ⟨hs, hw⟩ kk
    obtain ⟨o, ho, ps, eo, hF, hP, hok, htab⟩ := I.slot hs
    subst eo
    refine ⟨ps, ⟨hP, hok, tabF_same I.sub htab⟩, fun c' H1 l1 => ?_⟩
    have hX : ∃ F1, EnvD X.K F1 H1 σ E ∧ Ext F H F1 H1 σ E E := by
      obtain ⟨F1, z1, z2, _⟩ := lam1_env I hs ho hF hP hok htab l1
      exact ⟨F1, z1, z2⟩
    obtain ⟨F1, I1, X1⟩ := hX
    refine ⟨F1, E, _, _, I1, hw, fun v F2 H2 d I2 X2 r q1 => kk (.str fine) F2 H2 E (.d (.str fine)) I2 (X1.trans X2) (.str _) q1, fun cls o F2 H2 xd I2 X2 r q1 => ?_⟩
    cases xd with
    | msg c2 =>
      obtain ⟨C, e1, rfl, rfl⟩ := r
      obtain ⟨rfl, q2⟩ := q1
      rw [mO] at e1
      cases e1
      exact ⟨false, x2, fun z => (nomatch z), fun _ => ⟨true, x3, fun _ => kk (.str wd) F2 H2 E (.d (.str wd)) I2 (X1.trans X2) (.str _) q2, fun z => (nomatch z)⟩⟩
    | val c2 f2 d =>
      obtain ⟨C, dd, v, e1, rfl, rfl, hd, hdp⟩ := r
      obtain ⟨rfl, rfl, hok2, q2⟩ := q1
      rw [mN] at e1
      cases e1
      exact ⟨true, x1, fun _ => ⟨dd, v, d, F2, rfl, rfl, hd, I2.sub, hdp, hok2, kk (.str _) F2 H2 E (.d (.str _)) I2 (X1.trans X2) (.str _) q2⟩, fun z => (nomatch z)⟩
end
end AF

set_option Elab.async false
set_option linter.all false
set_option maxRecDepth 100000
set_option maxHeartbeats 4000000
/-! AF22: defs that take the dice and keep tables of code objects; the guards that run are known. -/
namespace AF
open PySem PySem.Spec PyProof.Rows L2
/-! ### slots of our own -/
section
variable {X : Cx} {pins : List (Addr × Obj)} {σ : L2.St} {H : Hp} {s : Shared}
theorem Inv.ghost {i : Nat} {y : Str} {v : V} (I : Inv X pins σ H s) (hi : X.N[i]? = some y) (hn : ¬ Vis X.env.scope y) : Inv X pins (σ.set i (some v)) H s := by
  refine ⟨I.ok, I.os, I.bare, I.base, ?_, I.cell, I.free, I.freeC, I.pin, I.hok, by rw [List.length_set]; exact I.len⟩
  obtain ⟨m, hm, hl⟩ := I.loc
  refine ⟨m, hm, fun j z u e1 e2 e3 => ?_⟩
  by_cases hj : i = j
  · subst hj
    rw [hi] at e1
    cases e1
    exact absurd e3 hn
  · rw [List.getElem?_set_ne hj] at e2
    exact hl j z u e1 e2 e3
/-- the slots of the tables: (place, address, name) -/
def ghostS (T : List (Nat × Addr × Str)) (σ : L2.St) : L2.St := T.foldl (fun σ t => σ.set t.1 (some (.ref t.2.1))) σ
def ghostE (T : List (Nat × Addr × Str)) (E : Env') : Env' := T.foldl (fun E t => E.set t.1 (.tb t.2.1 t.2.2)) E
theorem inv_ghosts : ∀ (T : List (Nat × Addr × Str)) {σ : L2.St}, (∀ t ∈ T, ∃ y, X.N[t.1]? = some y ∧ ¬ Vis X.env.scope y) → Inv X pins σ H s → Inv X pins (ghostS T σ) H s
  | [], _, _, I => I
  | t :: T, _, h, I => by
    obtain ⟨y, h1, h2⟩ := h t (List.mem_cons_self ..)
    exact inv_ghosts T (fun t ht => h t (List.mem_cons_of_mem _ ht)) (Inv.ghost I h1 h2)
theorem pss_ghost {T : List (Nat × Addr × Str)} {ss : List Stmt} {t : TS} (h : PSs X ss t) (hT : ∀ t ∈ T, ∃ y, X.N[t.1]? = some y ∧ ¬ Vis X.env.scope y) : PSs X ss fun D σ H => t D (ghostS T σ) H :=
  ⟨fun pins s σ H D I hw => h.run pins s _ H D (inv_ghosts T hT I) hw⟩
end
section
variable {K : PySem.W.Frag} {F H : Hp}
theorem env_ghost {σ : L2.St} {E : Env'} {i : Nat} {P : Addr} {q : Str} (I : EnvD K F H σ E) (hi : E[i]? = some .no) (t : TabSl F H P q) (ap : ∀ j, OwnAt E j → σ[j]? ≠ some (some (.ref P))) : EnvD K F H (σ.set i (some (.ref P))) (E.set i (.tb P q)) := by
  have hl : i < E.length := (List.getElem?_eq_some_iff.mp hi).1
  have hls : i < σ.length := by rw [I.len]; exact hl
  refine ⟨I.sub, by rw [List.length_set, List.length_set]; exact I.len, fun j sl o e1 e2 => ?_, fun j k a hjk o1 o2 e1 e2 => ?_⟩
  · by_cases hj : i = j
    · subst hj
      rw [List.getElem?_set_self hl] at e1
      rw [List.getElem?_set_self hls] at e2
      cases e1
      cases e2
      obtain ⟨ps, h1, h2, h3, h4⟩ := t
      exact ⟨ps, rfl, h1, h2, h3, h4⟩
    · rw [List.getElem?_set_ne hj] at e1 e2
      exact I.at_ j sl o e1 e2
  · rcases own_set o1 with ⟨z1, _⟩ | ⟨z1, w1⟩
    · rcases own_set o2 with ⟨z2, _⟩ | ⟨z2, w2⟩
      · exact hjk (z1.trans z2.symm)
      · subst z1
        rw [List.getElem?_set_self hls] at e1
        cases e1
        rw [List.getElem?_set_ne (Ne.symm z2)] at e2
        exact ap k w2 e2
    · rcases own_set o2 with ⟨z2, _⟩ | ⟨z2, w2⟩
      · subst z2
        rw [List.getElem?_set_self hls] at e2
        cases e2
        rw [List.getElem?_set_ne (Ne.symm z1)] at e1
        exact ap j w1 e1
      · rw [List.getElem?_set_ne (Ne.symm z1)] at e1
        rw [List.getElem?_set_ne (Ne.symm z2)] at e2
        exact I.sep j k a hjk w1 w2 e1 e2
/-- the places of the tables are free, and apart -/
def FreeT : List (Nat × Addr × Str) → Env' → Prop
  | [], _ => True
  | t :: T, E => E[t.1]? = some .no ∧ (∀ (j : Nat) (c : Addr) (q : Str), E[j]? = some (Sl.tb c q) → c ≠ t.2.1) ∧ FreeT T (E.set t.1 (.tb t.2.1 t.2.2))
/-- an own object that is no table is none of the tables -/
theorem env_ghosts : ∀ (T : List (Nat × Addr × Str)) {σ : L2.St} {E : Env'}, EnvD K F H σ E → FreeT T E → (∀ t ∈ T, TabSl F H t.2.1 t.2.2) → EnvD K F H (ghostS T σ) (ghostE T E)
  | [], _, _, I, _, _ => I
  | t :: T, σ, E, I, f, h => by
    obtain ⟨f1, f2, f3⟩ := f
    have tt := h t (List.mem_cons_self ..)
    refine env_ghosts T (env_ghost I f1 tt fun j ho e => ?_) f3 fun t ht => h t (List.mem_cons_of_mem _ ht)
    obtain ⟨s, es, oo⟩ := ho
    obtain ⟨o, eo, hs⟩ := I.slot es
    rw [e] at eo
    cases eo
    obtain ⟨ps, _, hP, _⟩ := tt
    cases s with
    | no => cases oo
    | fz d => cases oo
    | ol d => obtain ⟨a, xs, e3, _, h, _⟩ := hs; cases e3; rw [h] at hP; cases hP
    | od d => obtain ⟨a, xs, e3, _, h, _⟩ := hs; cases e3; rw [h] at hP; cases hP
    | ot d => obtain ⟨a, xs, e3, _, h, _⟩ := hs; cases e3; rw [h] at hP; cases hP
    | dc a d => obtain ⟨xs, e3, _, h, _⟩ := hs; cases e3; rw [h] at hP; cases hP
    | tb c q => obtain ⟨ps, e3, _⟩ := hs; cases e3; exact f2 j _ q es rfl
    | fl d => obtain ⟨a, xs, e3, _, h, _⟩ := hs; cases e3; rw [h] at hP; cases hP
    | fv d => cases oo
    | vv v d => cases oo
end
/-! ### the promise -/
abbrev PGd := List D → (D → List D → Prop) → Prop
def TabsAt (F H : Hp) (T : List (Addr × Str)) : Prop := ∀ t ∈ T, TabSl F H t.1 t.2
def spG (K : PySem.W.Frag) (T : List (Addr × Str)) (f : PGd) : Sp := fun vs H Q _ => ∃ (a : Addr) (F : Hp) (xs : List V) (es : List D) (R : D → List D → Prop), vs = [.ref a] ∧ Same F H ∧ F a = none ∧ H a = some (.lst xs) ∧ DpAll K F xs es ∧ TabsAt F H T ∧ f es R ∧
  ∀ v F' H' d xs' es', Same F F' → Same F' H' → F' a = none → H' a = some (.lst xs') → DpAll K F' xs' es' → TabsAt F' H' T → (∀ b o, b ≠ a → (∀ t ∈ T, b ≠ t.1) → H b = some o → H' b = some o) → (∀ b o, F' b = some o → F b = some o ∨ H b = none) → Dp K F' v d → R d es' → Q v H'
/-- a def's body keeps a promise, where no guard runs -/
structure HasG (P : Program) (w : World) (K : PySem.W.Frag) (mg : Str → Option Value) (base : Heap) (x : Str) (k : Nat) (ps : List Str) (sp : Sp) : Prop where
  ex : ∃ (st : Stmt) (f : Addr) (fd : FuncData) (N : List Str), mg x = some (.ref f) ∧ FnP K x st f fd ∧ FnScope N ps (defScope st) ∧ Binds K fd ps [] ∧ (∀ vs H Q E, sp vs H Q E → vs.length = ps.length) ∧
    ∀ (A : Around) (outer : List Env) (s : Shared) (H : Hp) (vs : List V) (Q : VK), A.guards = some [] → Room k (A.deeper (envOfC x (defScope st) s.heap.objs.size f fd.code)) → sp vs H Q C8.E0 →
      ∃ t, PSs (cxOf C8.CX0 P w K mg base N x (defScope st) f fd.code A outer s H C8.E0).nox (defBody st) t ∧ t { nx := fun _ H' => Q .non H', rt := Q } (L2.start N vs) H
section
variable {X : Cx} {e : Expr} {es : List Expr} {pos p : Pos} {x : Str}
theorem pe_callG {k : Nat} {ps : List Str} {sp : Sp} {ta : TA} (h : HasG X.prog X.w X.K X.mg X.base x k ps sp) (hr : Room (k + 1) X.A) (hgd : X.A.guards = some []) (ha : PA X (e :: es) ta) (hg : Gl X x) (hdb : (x == ("__debug__" : Str)) = false := by decide)
    (he : starEach (e :: es) X.env = (false, eval e X.env) :: starEach es X.env := by rfl) (hpl : (backTo pos (starEach es X.env)).any (·.1) = false := by rfl) :
    PE X (.Call (.Name x p) (e :: es) [] pos) (fun σ H Q => ta σ H fun vs H1 => sp vs H1 Q C8.E0) := by
  obtain ⟨st, f, fd, N, hm, Fd, S, hb, hlen, body⟩ := h.ex
  obtain ⟨oc, od, dV, kV, doc, pm, an, cdv, ct, osl, rfl, lk, hcd, _, _⟩ := Fd.ex
  refine ⟨fun pins s σ H Q I h => ?_⟩
  refine wpAny_Call_Name_kw (ld_glob I hg hm ?_ hdb)
  refine PySem.W.callWith_K (h₀ := X.base) I.ok.mod.kin Fd.kp (thn (ha.run pos pins s σ H _ I h) fun us s1 ⟨vs, H1, I1, r, q⟩ => ⟨I1.kIn, ?_⟩) he hpl
  have hl := hlen vs H1 Q _ q
  have rc : codeAny (model X.prog X.w) X.A (.call (.ref f) ⟨us, []⟩) (CR C8.CX0 X.stack X.prog X.w H1 s1 Q C8.E0) s1 := by
    refine LamX.run_ofS (N := N) (ps := ps) (us := us) (vs := vs) lk hcd S hr I1.env0 ?_ r hl fun hr' => ?_
    · have z := hb s1 us I1.kIn (by rw [List.append_nil, ← hl]; exact r.length.symm)
      rw [List.append_nil] at z
      exact z
    · obtain ⟨t', ht', hq'⟩ := body X.A X.stack s1 H1 vs Q hgd hr' q
      exact ⟨t', ht'.nox, hq'⟩
  refine wpAny_call (codeAny_mono rc fun r s2 hq => ?_)
  cases r with
  | error e => exact (show False from hq).elim
  | ok fl =>
    cases fl with
    | ret u => exact I1.after hq
    | next => exact False.elim hq
    | brk => exact False.elim hq
    | cont => exact False.elim hq
/-- the tables of a callee, told by the slots -/
def SlotsT (E : Env') (J : List (Nat × Addr × Str)) : Prop := ∀ t ∈ J, E[t.1]? = some (Sl.tb t.2.1 t.2.2)
def wFunG (f : PGd) (i : Nat) (J : List (Nat × Addr × Str)) : WE := fun E Q => SlotsT E J ∧ onDc E[i]? fun a es => f es fun d es' => Q (.d d) (E.set i (.dc a es'))
/-- an own slot and some tables rewritten -/
theorem own_updT {K : PySem.W.Frag} {F H F' H' : Hp} {σ : L2.St} {E : Env'} {i : Nat} {a : Addr} {es es' : List D} {J : List (Nat × Addr × Str)} (I : EnvD K F H σ E) (hi : E[i]? = some (.dc a es)) (hJ : SlotsT E J) (ha : σ[i]? = some (some (.ref a)))
    (f1 : Same F F') (f2 : Same F' H') (hF : F' a = none) {xs' : List V} (hH : H' a = some (.lst xs')) (hx : DpAll K F' xs' es') (hT : ∀ t ∈ J, TabSl F' H' t.2.1 t.2.2)
    (kp : ∀ b o, b ≠ a → (∀ t ∈ J, b ≠ t.2.1) → H b = some o → H' b = some o) (nw : ∀ b o, F' b = some o → F b = some o ∨ H b = none) : EnvD K F' H' σ (E.set i (.dc a es')) ∧ Ext F H F' H' σ E (E.set i (.dc a es')) := by
  have oi : OwnAt E i := ⟨_, hi, rfl⟩
  have hl : i < E.length := (List.getElem?_eq_some_iff.mp hi).1
  have ownj : ∀ j, OwnAt (E.set i (.dc a es')) j ↔ OwnAt E j := fun j => by
    by_cases hj : i = j
    · subst hj
      exact ⟨fun _ => oi, fun _ => ⟨_, List.getElem?_set_self hl, rfl⟩⟩
    · unfold OwnAt
      rw [List.getElem?_set_ne hj]
  have nn : ∀ {b : Addr} {u : HO}, F b = none → H b = some u → F' b = none := fun {b u} h1 h2 => by
    cases q : F' b with
    | none => rfl
    | some z =>
      rcases nw b z q with r | r
      · rw [h1] at r; cases r
      · rw [h2] at r; cases r
  have tabH : ∀ t ∈ J, ∃ ps, H t.2.1 = some (.tbl ps) := fun t ht => by
    obtain ⟨o, ho, ps, eo, _, h, _⟩ := I.slot (hJ t ht)
    exact ⟨ps, h⟩
  have notT : ∀ {b : Addr} {u : HO}, H b = some u → (∀ ps, u ≠ .tbl ps) → ∀ t ∈ J, b ≠ t.2.1 := fun {b u} e n t ht z => by
    obtain ⟨ps, h⟩ := tabH t ht
    rw [z, h] at e
    exact n ps (Option.some.inj e).symm
  have slotA : ∃ xs, F a = none ∧ H a = some (.lst xs) := by
    obtain ⟨o, ho, xs, eo, h1, h2, _⟩ := I.slot hi
    exact ⟨xs, h1, h2⟩
  refine ⟨⟨f2, by rw [List.length_set]; exact I.len, fun j sl o e1 e2 => ?_, fun j k b hjk o1 o2 => I.sep j k b hjk ((ownj j).mp o1) ((ownj k).mp o2)⟩, ⟨f1, nw, fun b o e n => kp b o (fun z => n ⟨i, oi, z ▸ ha⟩) (fun t ht z => n ?_) e, fun b o e => ?_, by rw [List.length_set], fun j => ⟨(ownj j).symm, fun n => ?_⟩⟩⟩
  · by_cases hj : i = j
    · subst hj
      rw [List.getElem?_set_self hl] at e1
      rw [ha] at e2
      cases e1
      cases e2
      exact ⟨xs', rfl, hF, hH, hx⟩
    · rw [List.getElem?_set_ne hj] at e1
      have old := I.at_ j sl o e1 e2
      have ap : ∀ {b : Addr}, sl.own = true → o = some (.ref b) → b ≠ a := fun {b} ho eo z => by
        subst z
        subst eo
        exact I.sep i j _ hj oi ⟨_, e1, ho⟩ ha e2
      cases sl with
      | no => exact old
      | fz d => obtain ⟨v, e, q⟩ := old; exact ⟨v, e, dp_same f1 q⟩
      | ol ds => obtain ⟨b, xs, e, h1, h2, q⟩ := old; exact ⟨b, xs, e, nn h1 h2, kp _ _ (ap rfl e) (notT h2 fun ps z => by cases z) h2, dpa_same f1 q⟩
      | od ds => obtain ⟨b, xs, e, h1, h2, q⟩ := old; exact ⟨b, xs, e, nn h1 h2, kp _ _ (ap rfl e) (notT h2 fun ps z => by cases z) h2, Paired.mapP q fun p r z => ⟨z.1, dp_same f1 z.2⟩⟩
      | ot ds => obtain ⟨b, xs, e, h1, h2, q⟩ := old; exact ⟨b, xs, e, nn h1 h2, kp _ _ (ap rfl e) (notT h2 fun ps z => by cases z) h2, Paired.mapP q fun p r z => ⟨z.1, dp_same f1 z.2⟩⟩
      | dc b ds => obtain ⟨xs, e, h1, h2, q⟩ := old; exact ⟨xs, e, nn h1 h2, kp _ _ (ap rfl e) (notT h2 fun ps z => by cases z) h2, dpa_same f1 q⟩
      | fl ds => obtain ⟨b, xs, e, h1, h2, q⟩ := old; exact ⟨b, xs, e, nn h1 h2, kp _ _ (ap rfl e) (notT h2 fun ps z => by cases z) h2, fnVs_same f1 q⟩
      | fv d => obtain ⟨v, e, q⟩ := old; exact ⟨v, e, fnV_same f1 q⟩
      | vv v d => exact ⟨old.1, dp_same f1 old.2⟩
      | tb P q =>
        obtain ⟨ps, e, h1, h2, h3, h4⟩ := old
        by_cases hP : ∃ t ∈ J, P = t.2.1
        · obtain ⟨t, ht, eP⟩ := hP
          obtain ⟨o', ho', ps', eo', g1, g2, g3, g4⟩ := I.slot (hJ t ht)
          have hjt : j = t.1 := by
            by_cases hz : j = t.1
            · exact hz
            · exfalso
              refine I.sep j t.1 P hz ⟨_, e1, rfl⟩ ⟨_, hJ t ht, rfl⟩ (by rw [e2, e]) (by rw [ho', eo', eP])
          have e3 := hJ t ht
          rw [← hjt, e1] at e3
          cases e3
          obtain ⟨ps2, k1, k2, k3, k4⟩ := hT t ht
          exact ⟨ps2, e, k1, k2, k3, k4⟩
        · exact ⟨ps, e, nn h1 h2, kp _ _ (ap rfl e) (fun t ht z => hP ⟨t, ht, z⟩) h2, h3, tabF_same f1 h4⟩
  · obtain ⟨o', ho', ps', eo', g1, g2, g3, g4⟩ := I.slot (hJ t ht)
    exact ⟨t.1, ⟨_, hJ t ht, rfl⟩, by rw [ho', eo', z]⟩
  · by_cases hb : b = a
    · subst hb
      exact ⟨_, hH⟩
    · by_cases hT2 : ∃ t ∈ J, b = t.2.1
      · obtain ⟨t, ht, eP⟩ := hT2
        obtain ⟨ps2, k1, k2, _⟩ := hT t ht
        exact ⟨_, eP ▸ k2⟩
      · exact ⟨o, kp b o hb (fun t ht z => hT2 ⟨t, ht, z⟩) e⟩
  · have hj : i ≠ j := fun z => n (z ▸ oi)
    rw [List.getElem?_set_ne hj]
theorem pu_funG {k : Nat} {f : PGd} {a0 y : Str} {py : Pos} (i : Nat) (J : List (Nat × Addr × Str)) (h : HasG X.prog X.w X.K X.mg X.base x k [a0] (spG X.K (J.map (·.2)) f)) (hr : Room (k + 1) X.A) (hgd : X.A.guards = some []) (hN : X.N[i]? = some y := by rfl) (hv : Vis X.env.scope y := by first | exact Or.inl rfl | exact Or.inr (Or.inl rfl) | exact Or.inr (Or.inr rfl)) (hd : (y == ("__debug__" : Str)) = false := by decide)
    (hcd : (y == ("__classdict__" : Str)) = false := by decide) (hg : Gl X x := by rfl) (hdb : (x == ("__debug__" : Str)) = false := by decide) (he : starEach [.Name y py] X.env = (false, eval (.Name y py) X.env) :: starEach [] X.env := by rfl) (hpl : (backTo pos (starEach [] X.env)).any (·.1) = false := by rfl) :
    PU X (.Call (.Name x p) [.Name y py] [] pos) (wFunG f i J) := by
  refine ⟨_, pe_callG h hr hgd (pa_cons (pe_var hN hv hd hcd) pa_nil he) hg hdb he hpl, fun σ F H E Qd Q I q k => ?_⟩
  obtain ⟨hJ, q⟩ := q
  obtain ⟨a, es, e0, q⟩ := onDc_of q
  obtain ⟨o, ho, xs, eo, hF, hH, hxs⟩ := I.slot e0
  subst eo
  refine ⟨.ref a, ho, a, F, xs, es, _, rfl, I.sub, hF, hH, hxs, fun t ht => ?_, q, fun v F2 H2 d xs' es' f1 f2 f3 f4 f5 f6 f7 f8 r q4 => ?_⟩
  · obtain ⟨u, hu, e⟩ := List.mem_map.mp ht
    rw [← e]
    exact I.tbs _ _ _ (hJ u hu)
  · obtain ⟨I2, X2⟩ := own_updT (es' := es') I e0 hJ ho f1 f2 f3 f4 f5 (fun t ht => f6 t.2 (List.mem_map.mpr ⟨t, ht, rfl⟩)) (fun b o hb hT e => f7 b o hb (fun t ht => by
      obtain ⟨u, hu, e⟩ := List.mem_map.mp ht
      rw [← e]
      exact hT u hu) e) f8
    exact k v F2 H2 _ (.d d) I2 X2 r q4
end
/-! ### the promise by the body -/
section
variable {P : Program} {w : World} {K : PySem.W.Frag} {mg : Str → Option Value} {base : Heap}
theorem ghostE_get {E : Env'} {i : Nat} {s : Sl} (h : E[i]? = some s) (hs : s ≠ .no) : ∀ (T : List (Nat × Addr × Str)) {E : Env'}, E[i]? = some s → FreeT T E → (ghostE T E)[i]? = some s
  | [], _, h, _ => h
  | t :: T, E, h, f => by
    obtain ⟨f1, _, f3⟩ := f
    refine ghostE_get (E := E) h hs T ?_ f3
    have hj : t.1 ≠ i := fun z => by
      rw [z, h] at f1
      exact hs (Option.some.inj f1)
    rw [List.getElem?_set_ne hj]
    exact h
theorem mine_ghosts {F H : Hp} {b : Addr} : ∀ (T : List (Nat × Addr × Str)) {σ : L2.St} {E : Env'}, Mine (ghostS T σ) (ghostE T E) b → Mine σ E b ∨ ∃ t ∈ T, b = t.2.1
  | [], _, _, m => .inl m
  | t :: T, σ, E, m => by
    rcases mine_ghosts (F := F) (H := H) T m with z | ⟨u, hu, e⟩
    · rcases mine_set z with ⟨_, e⟩ | z
      · exact .inr ⟨t, List.mem_cons_self .., by cases e; rfl⟩
      · exact .inl z
    · exact .inr ⟨u, List.mem_cons_of_mem _ hu, e⟩
def endG (a : Addr) (T : List (Nat × Addr × Str)) (R : D → List D → Prop) : EndsD := { nx := fun E => ∃ es, E[0]? = some (.dc a es) ∧ SlotsT E T ∧ R .none es, rt := fun d E => ∃ es, E[0]? = some (.dc a es) ∧ SlotsT E T ∧ R d es }
theorem has_g {x a0 : Str} {st : Stmt} {N : List Str} {k : Nat} {p : PGd} {T : List (Nat × Addr × Str)} (D : DefAt K mg x st) (S : FnScope N [a0] (defScope st)) (hbi : ∀ {f fd}, FnP K x st f fd → Binds K fd [a0] []) (hT : ∀ t ∈ T, ∃ y, N[t.1]? = some y ∧ ¬ Vis (defScope st) y)
    (hfree : ∀ a es, FreeT T (startO N.length a es []))
    (hb : ∀ (f : Addr) (fd : FuncData) (Fm : mg x = some (.ref f)) (F : FnP K x st f fd) (A : Around) (outer : List Env) (s : Shared) (H : Hp), A.guards = some [] → Room k (A.deeper (envOfC x (defScope st) s.heap.objs.size f fd.code)) → ∃ w', PUSs (cxOf C8.CX0 P w K mg base N x (defScope st) f fd.code A outer s H C8.E0).nox (defBody st) w' ∧ ∀ a es R, p es R → w' (endG a T R) (ghostE T (startO N.length a es []))) :
    HasG P w K mg base x k [a0] (spG K (T.map (·.2)) p) := by
  obtain ⟨f, fd, hm, Fd⟩ := D
  refine ⟨st, f, fd, N, hm, Fd, S, hbi Fd, fun vs H Q E h => ?_, fun A outer s H vs Q hgd hr hsp => ?_⟩
  · obtain ⟨a, F, xs, es, R, rfl, _⟩ := h
    rfl
  · obtain ⟨a, F, xs, es, R, rfl, sub, hF, hH, hx, hTb, hp, hq⟩ := hsp
    obtain ⟨w', pw, hw⟩ := hb f fd hm Fd A outer s H hgd hr
    obtain ⟨t, pt, st'⟩ := pw.ex
    have I0 := env_ghosts T (startO_env N sub hF hH hx .nil) (hfree a es) (fun t ht => hTb t.2 (List.mem_map.mpr ⟨t, ht, rfl⟩))
    have old : ∀ {H' : Hp}, (∀ b o, H b = some o → ¬ Mine (ghostS T (L2.start N [.ref a])) (ghostE T (startO N.length a es [])) b → H' b = some o) → ∀ b o, b ≠ a → (∀ t ∈ T.map (·.2), b ≠ t.1) → H b = some o → H' b = some o := fun h b o hb hb2 e => h b o e fun m => by
      rcases mine_ghosts (F := F) (H := H) T m with z | ⟨u, hu, e⟩
      · exact hb (mineO z)
      · exact hb2 u.2 (List.mem_map.mpr ⟨u, hu, rfl⟩) e
    have tabs : ∀ {F' H' : Hp} {E' : Env'}, SlotsT E' T → (∀ (i : Nat) (P : Addr) (q : Str), E'[i]? = some (.tb P q) → TabSl F' H' P q) → TabsAt F' H' (T.map (·.2)) := fun hs h t ht => by
      obtain ⟨u, hu, e⟩ := List.mem_map.mp ht
      rw [← e]
      exact h _ _ _ (hs u hu)
    refine ⟨_, pss_ghost (T := T) pt hT, ?_⟩
    refine st' _ F H _ (endG a T R) _ I0 (hw a es R hp) ⟨fun F' H' σ' E' I' X' q => ?_, fun _ _ _ _ _ _ q => q.elim, fun _ _ _ _ _ _ q => q.elim, fun v H' d E' r q => ?_⟩
    · obtain ⟨es', e', sl, q⟩ := q
      obtain ⟨g1, ys, g2, g3⟩ := I'.dcs 0 a es' e'
      exact hq .non F' H' .none ys es' X'.fz I'.sub g1 g2 g3 (tabs sl I'.tbs) (old X'.keep) X'.new .non q
    · obtain ⟨F', h1, h2, h3, h4, h5, h6, h7, h8⟩ := r.ex
      obtain ⟨es', e', sl, q⟩ := q
      obtain ⟨g1, ys, g2, g3⟩ := h7 0 a es' e'
      refine hq v F' H' d ys es' h2 h1 g1 g2 g3 (tabs sl h8) (old h4) (fun b o e => ?_) h6 q
      rcases h3 b o e with z | z | z
      · exact .inl z
      · exact .inr z
      · rcases mine_ghosts (F := F) (H := H) T z with z | ⟨u, hu, z⟩
        · rw [mineO z, g1] at e
          cases e
        · obtain ⟨ps, k1, _⟩ := tabs sl h8 u.2 (List.mem_map.mpr ⟨u, hu, rfl⟩)
          rw [z, k1] at e
          cases e
end
end AF

set_option Elab.async false
set_option linter.all false
set_option maxRecDepth 100000
set_option maxHeartbeats 4000000
/-! AF23: functions as values: defs and lambdas kept in a list. -/
namespace AF
open PySem PySem.Spec PyProof.Rows L2
section
variable {X : Cx} {pins : List (Addr × Obj)} {σ : L2.St} {H : Hp} {s : Shared}
/-- an object that is new since s is tracked from s' on -/
theorem Inv.adopt {s' : Shared} {H' : Hp} {f : Addr} {o : HO} (I : Inv X pins σ H s) (J : Inv X pins σ H' s') (hf : H' f = none) (hge : s.heap.objs.size ≤ f) (new : ObjOk X.prog X.w (upd H' f o) s'.heap f o) : Inv X pins σ (upd H' f o) s' := by
  have sm : ∀ b u, H' b = some u → upd H' f o b = some u := fun b u e => by rw [upd_ne (ne_of_none e hf)]; exact e
  refine J.call' (ch := [f]) rfl ⟨fun b u e _ _ _ => e, fun b u e _ _ _ => ⟨u.slots, e⟩, fun b u _ n hb => ?_, fun b u e _ => ⟨u, e⟩, fun b xs e => sm _ _ e, fun b u xs e => sm _ _ e, fun b ps e => ⟨#[], by rw [sm _ _ e]; simp⟩⟩ (fun b u e => ?_) J.bare fun b hb => ?_
  · rw [upd_ne (fun z => hb (by rw [z]; simp))]
    exact n
  · by_cases hb : b = f
    · subst hb
      rw [upd_same] at e
      cases e
      exact new
    · rw [upd_ne hb] at e
      exact (J.hok b u e).stay (fun _ _ _ q => q) (fun d e => sm _ _ e) fun d xs e => sm _ _ e
  · have eb : b = f := by simpa using hb
    subst eb
    refine ⟨.inr (Nat.le_trans I.sz hge), fun z => ?_, fun y c e z => ?_, fun p hp z => ?_⟩
    · exact absurd I.lt (Nat.not_lt.mpr (z ▸ hge))
    · obtain ⟨v, hc⟩ := I.cell y c e
      exact absurd hc.lt (Nat.not_lt.mpr (z ▸ hge))
    · exact absurd (Heap.lt_size (I.pin p hp).1) (Nat.not_lt.mpr (z ▸ hge))
theorem lamO_ok {P : Program} {w : World} {H' : Hp} {h : Heap} {f c' : Addr} {t : LamT} {cl : List (Str × Addr)} {pm ctv : Value} (e : h.get? f = some (PySem.W.kla_obj "<lambda>" t.q t.params t.body t.scope cl pm c' ctv)) : ObjOk P w H' h f (LamO f c' t cl) :=
  ⟨⟨pm, ctv, e⟩, ⟨_, e⟩, fun h1 h2 ⟨pm, ctv, e⟩ st => ⟨pm, ctv, st _ e⟩⟩
abbrev WF := Env' → (FnD → Prop) → Prop
def SndF (K : PySem.W.Frag) (t : TE) (w : WF) : Prop := ∀ (σ : L2.St) (F H : Hp) (E : Env') (Qd : FnD → Prop) (Q : VK), EnvD K F H σ E → w E Qd → (∀ v F' H' d, EnvD K F' H' σ E → Ext F H F' H' σ E E → FnV F' v d → Qd d → Q v H') → t σ H Q
structure PUF (X : Cx) (e : Expr) (w : WF) : Prop where
  ex : ∃ t, PE X e t ∧ SndF X.K t w
abbrev WFs := Env' → (List FnD → Prop) → Prop
def SndFs (K : PySem.W.Frag) (t : TA) (w : WFs) : Prop := ∀ (σ : L2.St) (F H : Hp) (E : Env') (Qd : List FnD → Prop) (Q : List V → Hp → Prop), EnvD K F H σ E → w E Qd → (∀ vs F' H' ds, EnvD K F' H' σ E → Ext F H F' H' σ E E → FnVs F' vs ds → Qd ds → Q vs H') → t σ H Q
structure PUFs (X : Cx) (es : List Expr) (w : WFs) : Prop where
  ex : ∃ t, PA X es t ∧ SndFs X.K t w
end
section
variable {X : Cx} {e : Expr} {es : List Expr} {pos p : Pos} {x : Str}
def wfGlob (f : Addr) : WF := fun _ Q => Q (.glob f)
theorem puf_glob {f : Addr} (hm : X.mg x = some (.ref f)) (hg : Gl X x := by rfl) (hdb : (x == ("__debug__" : Str)) = false := by decide) : PUF X (.Name x pos) (wfGlob f) :=
  ⟨_, pe_glob (v := .ref f) hg hm rfl hdb, fun σ F H E Qd Q I q k => k _ F H (.glob f) I (Ext.refl _ _ _ _) rfl q⟩
def wfLam (i : Nat) (P : Addr) (t : LamT) (cl : List (Str × Addr)) : WF := fun E Q => E[i]? = some (.tb P t.q) ∧ Q (.lam t cl)
theorem puf_lam {i : Nat} {c P : Addr} {t : LamT} {cl : List (Str × Addr)} {lpos : Pos} (TB : LamX.TabB X.base X.mg c P) (hcode : X.env.code = .ref c) (hq : t.q = X.env.qual ++ "<lambda>") (hcl : cloFrom X.env.cells t.scope.names [] = cl)
    (hfree : ∀ y ∈ t.scope.names, y.2 = .free → X.env.kindOf y.1 = some .cell ∨ X.env.kindOf y.1 = some .free) (hdef : defaultsOf t.params X.env = ([], []) := by rfl) : PUF X (.Lambda t.params t.body t.scope lpos) (wfLam i P t cl) := by
  refine ⟨fun σ H Q => ∃ ps, TabH H P t.q ps ∧ ∀ f c' H1, Lam1 H P t.q ps c' H1 → H1 f = none → H1 c' = some (LamX.CodeO c' t.q) → Q (.ref f) (upd H1 f (LamO f c' t cl)), ⟨fun pins s σ H Q I h => ?_⟩, fun σ F H E Qd Q I q k => ?_⟩
  · obtain ⟨ps, hT, h⟩ := h
    refine lam_made I TB hcode hq hT hdef (fun y hy e => I.ok.has _ (hfree y hy e)) fun f c' pm ctv H1 s' I1 l1 hf hfn hfr hge => ?_
    have J : Inv X pins σ (upd H1 f (LamO f c' t cl)) s' := Inv.adopt I I1 hfn hge (lamO_ok (pm := pm) (ctv := ctv) (by rw [← hcl]; exact hf))
    exact ⟨.ref f, _, J, rfl, h f c' H1 l1 hfn l1.code⟩
  · obtain ⟨hs, q⟩ := q
    obtain ⟨o, ho, ps, eo, hF, hP, hok, htab⟩ := I.slot hs
    subst eo
    refine ⟨ps, ⟨hP, hok, tabF_same I.sub htab⟩, fun f c' H1 l1 hfn hc => ?_⟩
    obtain ⟨F1, I1, X1, hFc⟩ := lam1_env I hs ho hF hP hok htab l1
    have nf : F1 f = none := I1.sub.free hfn
    exact k (.ref f) _ _ (.lam t cl) (I1.lay hfn) (X1.trans (Ext.lay I1.sub hfn)) ⟨f, c', rfl, upd_same, by rw [upd_ne (ne_of_none hFc nf)]; exact hFc⟩ q
def wfsNil : WFs := fun _ Q => Q []
theorem pufs_nil : PUFs X [] wfsNil := ⟨_, pa_nil, fun σ F H E Qd Q I q k => k _ F H [] I (Ext.refl _ _ _ _) .nil q⟩
def wfsCons (w : WF) (ws : WFs) : WFs := fun E Q => w E fun d => ws E fun ds => Q (d :: ds)
theorem pufs_cons {w : WF} {ws : WFs} (h : PUF X e w) (hs : PUFs X es ws) (hst : starEach (e :: es) X.env = (false, eval e X.env) :: starEach es X.env := by rfl) : PUFs X (e :: es) (wfsCons w ws) := by
  obtain ⟨t, p, s⟩ := h.ex
  obtain ⟨ts, ps, ss⟩ := hs.ex
  refine ⟨_, pa_cons p ps hst, fun σ F H E Qd Q I q k => ?_⟩
  refine s σ F H E _ _ I q fun v F1 H1 d I1 X1 r1 q1 => ?_
  exact ss σ F1 H1 E _ _ I1 q1 fun vs F2 H2 ds I2 X2 r2 q2 => k _ F2 H2 (d :: ds) I2 (X1.trans X2) (.cons (fnV_same X2.fz r1) r2) q2
theorem fnVs_app {F : Hp} {v : V} {d : FnD} (r : FnV F v d) : ∀ {vs : List V} {ds : List FnD}, FnVs F vs ds → FnVs F (vs ++ [v]) (ds ++ [d])
  | _, _, .nil => .cons r .nil
  | _, _, .cons h t => .cons h (fnVs_app r t)
theorem fnVs_len {F : Hp} {vs : List V} {ds : List FnD} (h : FnVs F vs ds) : vs.length = ds.length := Paired.length h
/-- [f, ..] -/
def wFl (ws : WFs) : WV := fun E Q => ws E fun fs => fs.length ≤ 1000 ∧ Q (.fl fs) E
theorem puv_fl {ws : WFs} (h : PUFs X es ws) : PUV X (.List es pos) (wFl ws) := by
  obtain ⟨t, p, s⟩ := h.ex
  refine ⟨_, pe_lst p, fun σ F H E Qd Q I q k => ?_⟩
  refine s σ F H E _ _ I q fun vs F1 H1 ds I1 X1 r1 q1 => ?_
  obtain ⟨hl, q2⟩ := q1
  refine ⟨line1000 (by rw [fnVs_len r1]; exact hl), fun p hp => ?_⟩
  exact k _ F1 _ E (.fl ds) (I1.push hp) (X1.trans (Ext.push hp)) ⟨⟨p, vs, rfl, I1.sub.free hp, upd_same, r1⟩, fun _ => ⟨p, rfl, back_none X1.live hp, by rw [upd_same]; exact fun z => by cases z⟩⟩ q2
/-- fs.append(f) -/
def wFApp (j : Nat) (w : WF) : WE := fun E Q => ∃ fs, E[j]? = some (.fl fs) ∧ w E fun d => fs.length ≤ 1000 ∧ Q (.d .none) (E.set j (.fl (fs ++ [d])))
theorem pu_fappend {w : WF} {y : Str} {apos py : Pos} (j : Nat) (h : PUF X e w) (hN : X.N[j]? = some y := by rfl) (hv : Vis X.env.scope y := by first | exact Or.inl rfl | exact Or.inr (Or.inl rfl) | exact Or.inr (Or.inr rfl)) (hd : (y == ("__debug__" : Str)) = false := by decide)
    (hcd : (y == ("__classdict__" : Str)) = false := by decide) (hbase : attributeBase (.Name y py) "append" X.env (eval (.Name y py) X.env) = eval (.Name y py) X.env := by rfl)
    (hfew : ((backTo pos (starEach [e] X.env)).all (fun x => !x.1) && (backToKw pos (keywordEach [] X.env)).all (fun x => x.1.isSome)
      && decide (([e] : List Expr).length + ([] : List Keyword).length + (if ([] : List Keyword).isEmpty then 0 else 1) < 30)) = true := by rfl)
    (hline : (apos.endLine == pos.line) = true := by rfl) (hs : starEach [e] X.env = (false, eval e X.env) :: starEach [] X.env := by rfl) (hplain : (backTo pos (starEach [] X.env)).any (·.1) = false := by rfl) :
    PU X (.Call (.Attribute (.Name y py) "append" apos) [e] [] pos) (wFApp j w) := by
  obtain ⟨t, p, s⟩ := h.ex
  refine ⟨_, pe_bm PySem.F.plainAttrs_list PySem.F.slot_list_append PySem.F.type_list_append mt_append (pe_var hN hv hd hcd) (pa_cons p pa_nil hs) hbase hfew hline hs hplain, fun σ F H E Qd Q I q k => ?_⟩
  obtain ⟨fs, e0, q⟩ := q
  obtain ⟨o, ho, c, xs, eo, hF, hH, hfs⟩ := I.slot e0
  subst eo
  refine ⟨.ref c, ho, .inl ⟨rfl, xs, .inl (.inl hH)⟩, ?_⟩
  refine s σ F H E _ _ I q fun v F1 H1 d I1 X1 r1 q1 => ?_
  obtain ⟨hz, q3⟩ := q1
  obtain ⟨o1, ho1, c1, xs1, eo1, hF1, hH1, hfs1⟩ := I1.slot e0
  subst eo1
  rw [ho] at ho1
  cases ho1
  have hl := fnVs_len hfs1
  refine ⟨c, xs1, v, rfl, rfl, hH1, Nat.lt_of_le_of_lt (Nat.le_trans (Nat.le_of_eq hl) hz) (by decide), ?_⟩
  obtain ⟨I2, X2⟩ := own_poke (s' := .fl (fs ++ [d])) (o := .lst (xs1 ++ [v])) I1 e0 rfl rfl ho hF1 ⟨c, _, rfl, hF1, upd_same, fnVs_app r1 hfs1⟩
  exact k .non F1 _ _ (.d .none) I2 (X1.trans X2) Dp.non q3
end
end AF

set_option Elab.async false
set_option linter.all false
set_option maxRecDepth 100000
set_option maxHeartbeats 4000000
/-! AF24: a function value called: a def, or a lambda with parameters whose captured cells stand in the base. -/
namespace AF
open PySem PySem.Spec PyProof.Rows L2
abbrev lamPEnv (t : LamT) (cl : List (Str × Addr)) (L f c' : Addr) : Env := PySem.W.envX t.q t.scope L f (.ref c') cl
/-- the context of a lambda's body -/
def lamPCx (P : Program) (w : World) (K : PySem.W.Frag) (mg : Str → Option Value) (base : Heap) (N : List Str) (t : LamT) (cl : List (Str × Addr)) (A : Around) (outer : List Env) (s : Shared) (H : Hp) (E : XK) (f c' : Addr) : Cx where
  prog := P
  w := w
  K := K
  mg := mg
  base := base
  A := A.deeper (lamPEnv t cl s.heap.objs.size f c')
  N := N
  s_0 := s
  H_0 := H
  env := lamPEnv t cl s.heap.objs.size f c'
  outer := outer
  stack := lamPEnv t cl s.heap.objs.size f c' :: outer
  ex := []
  fn := fun _ => false
  calm := true
  pn := []
  xe := fun e s' => wpAny (model P w) (A.deeper (lamPEnv t cl s.heap.objs.size f c')) (leaving (lamPEnv t cl s.heap.objs.size f c') e) (fun _ s'' => L2.CX P w outer H s E e s'') (fun e' s'' => L2.CX P w outer H s E e' s'') s'
/-- its names: the parameters ps, then the captured ones -/
structure LamP (N ps : List Str) (sc : Scope) (cl : List (Str × Addr)) : Prop where
  kind : sc.kind = .function
  co : sc.isCoroutine = false
  gen : sc.isGenerator = false
  nd : N.Nodup
  pre : N.take ps.length = ps
  par : ∀ x ∈ ps, sc.names.lookup x = some .local
  nocell : ∀ y ∈ sc.names, y.2 ≠ .cell
  free : ∀ y, sc.names.lookup y = some .free → ∃ c, cl.lookup y = some c
  inj : ∀ x y c, cl.lookup x = some c → cl.lookup y = some c → x = y
/-- the captured cells stand in the base, with the values gs -/
def CellsB (base : Heap) (cl : List (Str × Addr)) (sc : Scope) (N ps : List Str) (gs : List V) : Prop :=
  (∀ y c, cl.lookup y = some c → ∃ v, base.IsCell c v) ∧ ∀ j y v, N[ps.length + j]? = some y → gs[j]? = some v → sc.names.lookup y = some .free ∧ ∃ c u, cl.lookup y = some c ∧ base.IsCell c (some u) ∧ RelV v u
section
variable {P : Program} {w : World} {K : PySem.W.Frag} {mg : Str → Option Value} {base : Heap}
theorem isCell_keeps {h h' : Heap} {c : Addr} {v : Option Value} (k : ∀ b o, h.get? b = some o → h'.get? b = some o) (x : h.IsCell c v) : h'.IsCell c v := x.keeps k
theorem lam_run {A : Around} {outer : List Env} {s : Shared} {H : Hp} {E : XK} {Q : VK} {f c' : Addr} {t : LamT} {cl : List (Str × Addr)} {us : List Value} {vs gs : List V} {N ps : List Str} {k : Nat} {tb : TE} (hr : Room (k + 1) A) (e0 : Env0 P w K mg base A outer s H) (r : Vals vs us) (hl : vs.length = ps.length)
    (hf : H f = some (LamO f c' t cl)) (hc : H c' = some (LamX.CodeO c' t.q)) (S : LamP N ps t.scope cl) (C : CellsB base cl t.scope N ps gs) (hN : N.length = vs.length + gs.length)
    (hbind : ∀ pm cv ctv, bindArgs (PySem.W.kla_fn "<lambda>" t.q t.params t.body t.scope cl pm cv ctv) ⟨us, []⟩ = pure (ps.zip us))
    (hb : Room k (A.deeper (lamPEnv t cl s.heap.objs.size f c')) → PE (lamPCx P w K mg base N t cl A outer s H E f c') t.body tb) (hw : tb ((vs ++ gs).map some) H Q) :
    codeAny (model P w) A (.call (.ref f) ⟨us, []⟩) (CR (L2.CX P w) outer P w H s Q E) s := by
  obtain ⟨⟨pm, ctv, of⟩, _, _⟩ := e0.hok f _ hf
  obtain ⟨⟨oc, vc, tq, hoc, hdc, hvc⟩, _, _⟩ := e0.hok c' _ hc
  refine PySem.W.kla_callFunE hr.depth of rfl S.co S.gen rfl ⟨c', oc, vc, tq, rfl, hoc, hdc, hvc⟩ ?_
  rw [hbind]
  have lim : s.heap.NoLimit := e0.mod.nolimit.keeps fun b o e => (e0.bs b o e).1
  refine wpAny_pure (wpAny_newFunctionEnv S.nocell (fun y hy => S.par _ (List.of_mem_zip hy).1) (fun h₁ hns hsb => ⟨lim.fresh _ hsb, ?_⟩) S.kind)
  show codeAny _ _ (.expr t.body (lamPEnv t cl s.heap.objs.size f c')) _ _
  have kp : ∀ b o, s.heap.get? b = some o → h₁.get? b = some o := fun b o e => hsb.extBut b o (Nat.ne_of_lt (Heap.lt_size e)) (Heap.get?_push_of_some _ e)
  have kb : ∀ b o, base.get? b = some o → h₁.get? b = some o := fun b o e => kp b o (e0.bs b o e).1
  have noA : ∀ b : Addr, b ∉ (lamPCx P w K mg base N t cl A outer s H E f c').ex := fun b z => absurd (show b ∈ ([] : List Addr) from z) (by simp)
  have ndP : ps.Nodup := by rw [← S.pre]; exact S.nd.sublist (List.take_sublist _ _)
  have J : Inv (lamPCx P w K mg base N t cl A outer s H E f c') [] ((vs ++ gs).map some) H { s with heap := h₁, toks := s.toks + (ps.zip us).length } := by
    refine ⟨⟨e0.mod, S.kind, rfl, rfl, Nat.le_refl _, S.inj, fun y hy => ?_, fun y c z _ => ?_, fun _ => hr.hd, Around.frames_deeper e0.frames, .inr ⟨rfl, rfl⟩, fun b z => absurd z (noA b), e0.bs, e0.bsz, fun b _ _ => noA b, fun b z => absurd z (noA b), e0.funs, e0.frf⟩,
      rfl, e0.bare, Un.kept kp, ⟨_, hns, fun i y v e1 e2 e3 => ?_⟩, fun y c e => ?_, e0.hok.fresh (Nat.le_refl _), fun y c e => ?_, fun q hq => absurd (show q ∈ ([] : List (Addr × Obj)) ++ [] from hq) (by simp), e0.hok.kept kp, ?_⟩
    · have hy : t.scope.names.lookup y = some .cell ∨ t.scope.names.lookup y = some .free := hy
      rcases hy with hy | hy
      · exact absurd rfl (S.nocell _ (PySem.mem_of_lookup hy))
      · exact S.free y hy
    · have z : false = true := z
      cases z
    · have e2 : ((vs ++ gs).map some)[i]? = some (some v) := e2
      have e2 : (vs ++ gs)[i]? = some v := by
        rw [List.getElem?_map] at e2
        cases q : (vs ++ gs)[i]? with
        | none => rw [q] at e2; cases e2
        | some u => rw [q] at e2; cases e2; rfl
      have e1 : N[i]? = some y := e1
      by_cases hi : i < vs.length
      · rw [List.getElem?_append_left hi] at e2
        obtain ⟨u, hu, rv⟩ := r.get e2
        have hp : ps[i]? = some y := by
          rw [← S.pre, List.getElem?_take_of_lt (by omega)]
          exact e1
        exact ⟨u, rv, .inl ⟨S.par y (List.mem_of_getElem? hp), NdefX.zip_look ndP hp hu⟩⟩
      · obtain ⟨j, rfl⟩ := Nat.exists_eq_add_of_le (Nat.le_of_not_lt hi)
        rw [List.getElem?_append_right (Nat.le_add_right _ _), Nat.add_sub_cancel_left] at e2
        obtain ⟨h1, c, u, h2, h3, h4⟩ := C.2 j y v (by rw [← hl]; exact e1) e2
        exact ⟨u, h4, .inr ⟨.inr h1, c, h2, h3.keeps kb⟩⟩
    · obtain ⟨v, z⟩ := C.1 y c e
      exact ⟨v, z.keeps kb⟩
    · obtain ⟨v, o, ho, _⟩ := C.1 y c e
      exact (e0.bs c o ho).2
    · rw [List.length_map, List.length_append]
      exact hN.symm
  refine PySem.W.kla_codeExpr (wpAny_mono ((hb (hr.deeper _)).run [] _ _ H Q J hw) (fun v s' hq => ?_) fun e s' hq => hq)
  obtain ⟨w', H', J', rv, q⟩ := hq
  exact ⟨w', H', J'.os, J'.bare, J'.base, J'.hok, rv, q⟩
/-! ### what a call of a function value does -/
structure CalOk (P : Program) (w : World) (K : PySem.W.Frag) (mg : Str → Option Value) (base : Heap) (k n : Nat) (gs : List V) (gd : List D) (d : FnD) (p : PX) : Prop where
  fn : ∀ (F H : Hp) (s : Shared) (v : V) (u : Value), Same F H → HOk P w H s.heap → K.In s.heap → FnV F v d → RelV v u → ∃ q, u = .ref q ∧ PySem.W.FnAt q s.heap
  run : ∀ (A : Around) (outer : List Env) (s : Shared) (F H : Hp) (v : V) (q : Addr) (us : List Value) (vs : List V) (ds : List D) (R : D → Prop) (RX : XD → Prop) (Q : VK) (E : XK), Room k A → Env0 P w K mg base A outer s H → FnV F v d → RelV v (.ref q) → Vals vs us → Same F H → DpAll K F vs ds → DpAll K F gs gd → ds.length = n → p ds R RX →
    (∀ v F' H' d, Same F F' → Same F' H' → Same H H' → (∀ b o, F' b = some o → F b = some o ∨ H b = none) → Dp K F' v d → R d → Q v H') →
    (∀ cls o F' H' xd, Same F F' → Same F' H' → Same H H' → (∀ b o, F' b = some o → F b = some o ∨ H b = none) → XRel K mg F' H' cls o xd → RX xd → E cls o H') →
    codeAny (model P w) A (.call (.ref q) ⟨us, []⟩) (CR (L2.CX P w) outer P w H s Q E) s
theorem cal_glob {x : Str} {k n : Nat} {f : Addr} {ps : List Str} {p : PX} (h : HasX P w K mg base x k ps (spX K mg n p)) (hm : mg x = some (.ref f)) (hK : ∃ oc od fd osl, K.lookup f = some ⟨oc, od, .func fd, osl⟩) : CalOk P w K mg base k n [] [] (.glob f) p := by
  obtain ⟨fa, fd, hm', hk, hb, Fo⟩ := h.ex
  rw [hm] at hm'
  cases hm'
  obtain ⟨oc, od, fd', osl, lk⟩ := hK
  refine ⟨fun F H s v u _ _ hKI hv r => ?_, fun A outer s F H v q us vs ds R RX Q E hr e0 hv r1 r sub hd hgs hl hp kr kx => ?_⟩
  · have hv : v = .ref f := hv
    subst hv
    obtain rfl : u = Value.ref f := r
    exact ⟨f, rfl, _, _, _, _, hKI _ _ lk⟩
  · have hv : v = .ref f := hv
    subst hv
    have r1 : Value.ref q = Value.ref f := r1
    cases r1
    have hsp : spX K mg n p vs H Q E := ⟨(dpa_len hd).trans hl, F, ds, R, RX, sub, hd, hp, kr, kx⟩
    have hKX : K.In s.heap := e0.mod.kin.keeps fun b o e => (e0.bs b o e).1
    have z := hb s us hKX (by rw [List.append_nil, ← r.length]; exact Fo.len vs H Q E hsp)
    rw [List.append_nil] at z
    exact Fo.run A outer s H ⟨us, []⟩ us vs Q E hr e0 z r hsp
theorem cal_lam {k n : Nat} {t : LamT} {cl : List (Str × Addr)} {N ps : List Str} {gs : List V} {gd : List D} {wl : WL} (S : LamP N ps t.scope cl) (C : CellsB base cl t.scope N ps gs) (hn : ps.length = n) (hN : N.length = n + gs.length)
    (hbind : ∀ us, us.length = n → ∀ pm cv ctv, bindArgs (PySem.W.kla_fn "<lambda>" t.q t.params t.body t.scope cl pm cv ctv) ⟨us, []⟩ = pure (ps.zip us))
    (hb : ∀ (A : Around) (outer : List Env) (s : Shared) (H : Hp) (E : XK) (f c' : Addr), Room k (A.deeper (lamPEnv t cl s.heap.objs.size f c')) → PE (lamPCx P w K mg base N t cl A outer s H E f c') t.body (tBody K mg wl E)) :
    CalOk P w K mg base (k + 1) n gs gd (.lam t cl) (fun ds R RX => wl ((ds ++ gd).map .fz) R RX) := by
  refine ⟨fun F H s v u sub hok _ hv r => ?_, fun A outer s F H v q us vs ds R RX Q E hr e0 hv r1 r sub hd hgs hl hp kr kx => ?_⟩
  · obtain ⟨f, c', rfl, h1, _⟩ := hv
    obtain rfl : u = Value.ref f := r
    obtain ⟨⟨pm, ctv, of⟩, _, _⟩ := hok f _ (sub _ _ h1)
    exact ⟨f, rfl, _, _, _, _, of⟩
  · obtain ⟨f, c', rfl, h1, h2⟩ := hv
    have r1 : Value.ref q = Value.ref f := r1
    cases r1
    have hvl := dpa_len hd
    refine lam_run hr e0 r (by rw [hvl, hl, hn]) (sub _ _ h1) (sub _ _ h2) S C (by rw [hN, hvl, hl]) (fun pm cv ctv => hbind us (by rw [← r.length, hvl, hl]) pm cv ctv) (fun hr2 => hb A outer s H E _ c' hr2) ?_
    have hall := dpa_append hd hgs
    have hlen : N.length = (vs ++ gs).length := by rw [List.length_append, hN, hvl, hl]
    have hst : L2.start N (vs ++ gs) = (vs ++ gs).map some := by
      unfold L2.start
      rw [hlen, Nat.sub_self]
      simp
    have hse : startE N.length (ds ++ gd) = (ds ++ gd).map .fz := by
      unfold startE
      rw [hlen, dpa_len hall, Nat.sub_self]
      simp
    refine ⟨F, (ds ++ gd).map .fz, R, RX, ?_, hp, fun v F' H' d I X r q => kr v F' H' d X.fz I.sub (fun b o e => X.keep b o e ?_) X.new r q, fun cls o F' H' xd I X r q => kx cls o F' H' xd X.fz I.sub (fun b o e => X.keep b o e ?_) X.new r q⟩
    · have z := start_env N sub hall
      rw [hst, hse] at z
      exact z
    · rw [← hse]
      exact noMine
    · rw [← hse]
      exact noMine
end
end AF

set_option Elab.async false
set_option linter.all false
set_option maxRecDepth 100000
set_option maxHeartbeats 4000000
/-! AF25: a list comprehension without tests whose element may lean on the state in which the block starts (the proof goes the way of HandS.Comp's, the maker's state handed on). -/
namespace AF
open PySem PySem.Spec PyProof.Rows L2
section
variable {X : Cx}
theorem lcx {pins : List (Addr × Obj)} {s : Shared} {σ : L2.St} {H : Hp} {Q : VK} {elt tg iter : Expr} {scope : Scope} {own : List (Str × Nat)} {pos : Pos} {wi : TI} {g : TG} {te : TE} (hc : X.calm = true) (hN : X.N.Nodup) (I : Inv X pins σ H s) (hi : PI X tg iter wi) (ok : BlkOk X.N X.env.scope scope own)
    (hg : ∀ (s : Shared) (H : Hp) (C : Addr) (cl : List (Str × Addr)) (fp : List Addr), PG (X.blk s H scope (compEnvC scope cl C X.env) fp) tg g)
    (he : ∀ (s : Shared) (H : Hp) (C : Addr) (cl : List (Str × Addr)) (fp : List Addr), Inv X pins σ H s → (∀ b ∈ fp, FpOk X pins H b ∧ b < s.heap.objs.size) → PE (X.blk s H scope (compEnvC scope cl C X.env) fp) elt te) (hs : ∀ x, foldedSetIterable iter X.env x = pure x)
    (h : tLc wi g tYes te (own.map (·.2)) σ H Q) : wpAny (model X.prog X.w) X.A (eval (.ListComp elt [⟨tg, iter, [], 0⟩] scope pos) X.env) (EP X pins σ Q) X.xe s := by
  rw [eval_ListComp]
  have caught : ∀ y ∈ scope.names, y.2 = .free → ∃ c, X.env.cells.lookup y.1 = some c := fun y hy e => (ok.free y hy e).elim (fun k => I.ok.has _ (.inl k)) fun k => I.ok.has _ (.inr k)
  refine wpAny_comprehension_free (use := none) rfl hs (closure_ok caught) ok.kind (fun y hy e => by rw [ok.uniq y hy, e]) (thn (hi.run pins s σ H _ I h) fun xv s1 hx => thn hx fun itv s2 ⟨it, fp, tn, J, H2, e, I2, T, st2, f2, q⟩ => ?_)
  subst e
  refine wpAny_newObj_type (newEnv_comp ?_) (by show 0 ≤ sizeLine; decide)
  obtain ⟨W, ⟨m0, w0⟩, turn⟩ := q s2.heap.objs.size (I2.hok.fresh (Nat.le_refl _))
  generalize hD : s2.heap.objs.size = D at w0 turn
  generalize hs3 : ({ s2 with heap := s2.heap.push { cls := .type "list", data := .seq ([] : List Value).toArray } } : Shared) = s3
  have h3 : s3.heap = s2.heap.push { cls := .type "list", data := .seq ([] : List Value).toArray } := by rw [← hs3]
  have I3 : Inv X pins σ (upd H2 D (.lst [])) s3 := by
    rw [← hs3]
    refine I2.laid (t' := s2.toks) (fun b o e => Heap.get?_push_of_some _ e) (Nat.le_of_eq hD) ⟨Nat.zero_le _, [], 0, .nil, ?_⟩
    rw [← hD]
    exact Heap.get?_push_size _ rfl
  have f3 : ∀ b ∈ fp, FpOk X pins (upd H2 D (.lst [])) b ∧ b < s3.heap.objs.size := fun b hb => by
    obtain ⟨o, e, _⟩ := T.obj _ _ st2 b hb
    have hlt := Heap.lt_size e
    refine ⟨⟨?_, (f2 b hb).2⟩, by rw [h3, Heap.size_push]; exact Nat.lt_succ_of_lt hlt⟩
    rw [upd_ne (by rw [← hD]; exact Nat.ne_of_lt hlt)]
    exact (f2 b hb).1
  have st3 : tn 0 s3.heap := T.keep _ _ _ st2 fun b _ o e => by rw [h3]; exact Heap.get?_push_of_some _ e
  have I4 := block_start I3 ok hN f3
  have pg := hg s3 (upd H2 D (.lst [])) s3.heap.objs.size (cellsFrom (s3.heap.objs.size + 1) scope.names (cloFrom X.env.cells scope.names [])) fp
  have pe := he s3 (upd H2 D (.lst [])) s3.heap.objs.size (cellsFrom (s3.heap.objs.size + 1) scope.names (cloFrom X.env.cells scope.names [])) fp I3 f3
  show codeAny _ _ (.compStart (.ListComp elt [⟨tg, iter, [], 0⟩] scope pos) 0 (.ref it) (.ref D) (compEnvC scope (cellsFrom (s3.heap.objs.size + 1) scope.names (cloFrom X.env.cells scope.names [])) s3.heap.objs.size X.env)) (compPost (model X.prog X.w) X.A X.xe none (EP X pins σ Q) (.ref D) s3.heap.objs.size) { s3 with heap := pushCells (s3.heap.push { cls := .type "dict", data := .dict #[] }) scope.names }
  generalize hce : compEnvC scope (cellsFrom (s3.heap.objs.size + 1) scope.names (cloFrom X.env.cells scope.names [])) s3.heap.objs.size X.env = ce at I4 pg pe ⊢
  have cL : ce.locals = s3.heap.objs.size := by subst hce; rfl
  generalize hH3 : upd H2 D (.lst []) = H3 at I3 I4 pg pe w0 f3
  generalize hs4 : ({ s3 with heap := pushCells (s3.heap.push { cls := .type "dict", data := .dict #[] }) scope.names } : Shared) = s4 at I4 ⊢
  have st4 : tn 0 s4.heap := T.keep _ _ _ st3 fun b _ o e => by rw [← hs4]; exact pushCells_keeps _ _ _ _ (Heap.get?_push_of_some _ e)
  have stat : ∀ {σ' : L2.St} {H' : Hp} {s' : Shared}, Inv (X.blk s3 H3 scope ce fp) [] σ' H' s' → (∀ b ∈ fp, H' b = none) → ∀ b ∈ fp, FpOk (X.blk s3 H3 scope ce fp) [] H' b := fun {σ' H' s'} I' hn b hb =>
    ⟨hn b hb, (I'.ok.exf b hb).1, I'.ok.exfs b hb, .inl hb, fun x c e => (I'.ok.exf b hb).2 x c e, fun p hp => absurd (show p ∈ ([] : List (Addr × Obj)) ++ [] from hp) (by simp)⟩
  refine codeAny_compStart_list ?_ (T.self X.A 0 _ _ _ st4 ?_) <;>
  · refine compLoop_any (fun n s' => ∃ i H', Inv (X.blk s3 H3 scope ce fp) [] (wipe σ (own.map (·.2))) H' s' ∧ tn i s'.heap ∧ (∀ b ∈ fp, H' b = none) ∧ W i n H') ?_ m0 ⟨0, H3, I4, st4, fun b hb => (f3 b hb).1.1, w0⟩
    rintro n s5 ⟨i, H5, I5, st5, n5, w5⟩
    rcases turn i n H5 w5 with ⟨stop, qq⟩ | ⟨go, Nx, hNx, step⟩
    · refine thnF (T.done (X.blk s3 H3 scope ce fp) rfl rfl rfl hc i [] s5 _ H5 (fun _ _ => False) I5 (stat I5 n5) st5 stop) fun r s6 ⟨hr, I6⟩ => ?_
      subst hr
      have I7 : Inv X pins σ H5 s6 := I3.call' (ch := fp) I6.os I6.base I6.hok I6.bare fun b hb => ⟨(f3 b hb).1.2.2.2.1, (f3 b hb).1.2.1, (f3 b hb).1.2.2.2.2.1, (f3 b hb).1.2.2.2.2.2⟩
      have nC : H5 s3.heap.objs.size = none := by
        have z : H5 ce.locals = none := I6.free
        rw [cL] at z
        exact z
      obtain ⟨m, hn, _⟩ := I6.loc
      have hn : s6.heap.Ns ce.locals m := hn
      rw [cL] at hn
      obtain ⟨f0, f1, f2, f3, f4, f5⟩ := I3.fpOk (Nat.le_refl _) nC
      exact ⟨m, hn, fun h'' sb => ⟨.ref D, H5, I7.turned (t' := s6.toks) (fun b o hb e => (sb.2 b hb).trans e) f0 f1 f3 f4 f5, rfl, qq⟩⟩
    · refine thnF (T.item (X.blk s3 H3 scope ce fp) rfl rfl rfl hc i [] s5 _ H5 (fun _ _ => False) I5 (stat I5 n5) st5 go) fun r s6 ⟨u, hr, h6⟩ => ?_
      subst hr
      refine thnF h6 fun _ s7 ⟨x, H7, I7, r7, y7, st7, n7⟩ => ?_
      refine thnF (pg.run _ s7 _ H7 x u _ (I7.pinned (stat I7 n7) (T.obj _ _ st7)) r7 (step x H7 y7)) fun _ s8 ⟨σ8, H8, I8, hw8, q8⟩ => ?_
      refine wpAny_tests_nil ?_
      rw [if_pos rfl]
      simp only [tYes, if_true] at q8
      refine thnF (pe.run _ s8 σ8 H8 _ I8 q8) fun z s10 ⟨yv, H10, I10, r10, acc, hD10, hz10, nx⟩ => ?_
      refine app_ok (X := X.blk s3 H3 scope ce fp) I10 hD10 hz10 r10 fun s11 I11 => ?_
      obtain ⟨m', hm, w'⟩ := hNx _ nx
      have pin' : ∀ b ∈ fp, ∀ o, s7.heap.get? b = some o → s11.heap.get? b = some o ∧ upd H10 D (.lst (acc ++ [yv])) b = none := fun b hb o e =>
        let z := I11.pin (b, o) (List.mem_append_right _ (List.mem_append_right _ (mem_pinsAt hb e)))
        ⟨z.1, z.2.1⟩
      refine ⟨m', hm, i + 1, _, (I11.unpinned (pins := [])).weak (by rw [← hw8, wipe_length]) (fun j v e => ?_), T.keep _ _ _ st7 fun b hb o e => (pin' b hb o e).1, fun b hb => ?_, w'⟩
      · rw [← hw8] at e
        exact (wipe_some e).1
      · obtain ⟨o, e, _⟩ := T.obj _ _ st7 b hb
        exact (pin' b hb o e).2
end
end AF

set_option Elab.async false
set_option linter.all false
set_option maxRecDepth 100000
set_option maxHeartbeats 4000000
/-! AF26: [met(lambda: f(..)) for f in fs], fs a list of functions. -/
namespace AF
open PySem PySem.Spec PyProof.Rows L2
/-! ### the maker's cell put into the base -/
def baseC (base h : Heap) (c : Addr) : Heap := hidT h fun b => if ((base.get? b).isSome || b == c) = true then none else some (.tbl #[])
theorem baseC_of {base h : Heap} {c b : Addr} {o : Obj} (e : (baseC base h c).get? b = some o) : h.get? b = some o ∧ ((∃ u, base.get? b = some u) ∨ b = c) := by
  obtain ⟨h1, h2⟩ := of_hidT e
  refine ⟨h1, ?_⟩
  have h2 : (if ((base.get? b).isSome || b == c) = true then none else some (HO.tbl #[])) = none := h2
  split at h2
  · rename_i z
    rcases Bool.or_eq_true_iff.mp z with z | z
    · exact .inl (Option.isSome_iff_exists.mp z)
    · exact .inr (beq_iff_eq.mp z)
  · cases h2
theorem baseC_get {base h : Heap} {c b : Addr} {o : Obj} (e : h.get? b = some o) (hb : (∃ u, base.get? b = some u) ∨ b = c) : (baseC base h c).get? b = some o := by
  refine hidT_get e ?_
  show (if ((base.get? b).isSome || b == c) = true then none else some (HO.tbl #[])) = none
  refine if_pos ?_
  rcases hb with ⟨u, z⟩ | z
  · rw [z]
    rfl
  · rw [z]
    simp
section
variable {X : Cx} {pins : List (Addr × Obj)} {σ : L2.St} {H : Hp} {s : Shared} {c : Addr} {y : Str}
theorem baseC_keeps (I : Inv X pins σ H s) : ∀ b o, X.base.get? b = some o → (baseC X.base s.heap c).get? b = some o := fun b o e => baseC_get (I.bk b o e) (.inl ⟨o, e⟩)
theorem mod_keeps {K : PySem.W.Frag} {mg : Str → Option Value} {base base' : Heap} (m : L2.Mod K mg base) (k : ∀ b o, base.get? b = some o → base'.get? b = some o) : L2.Mod K mg base' :=
  ⟨m.kin.keeps k, m.glob.keeps k, let ⟨mb, h1, h2⟩ := m.blt; ⟨mb, h1.keeps k, h2⟩, m.nolimit.keeps k⟩
theorem funFrames_base {h base base' : Heap} : ∀ {l : List Env}, h.FunFrames base l → (∀ b ∈ frs l, base'.get? b = none) → h.FunFrames base' l
  | [], _, _ => trivial
  | env :: rest, ⟨hk, ⟨L, o, hf, hn, ho, hd⟩, hr⟩, hb => by
    have e : frs (env :: rest) = L :: frs rest := by
      unfold frs
      rw [List.filterMap_cons, hf]
    rw [e] at hb
    exact ⟨hk, ⟨L, o, hf, hb L (List.mem_cons_self ..), ho, hd⟩, funFrames_base hr fun b hm => hb b (List.mem_cons_of_mem _ hm)⟩
theorem okBase {scope : Scope} {ce : Env} {fp : List Addr} (I : Inv X pins σ H s) (hf : ∀ b ∈ fp, FpOk X pins H b ∧ b < s.heap.objs.size) (hc : X.env.cells.lookup y = some c) (hfn : X.fn y = true) (ok : (X.blk s H scope ce fp).Ok) : ({ X.blk s H scope ce fp with base := baseC X.base s.heap c } : Cx).Ok := by
  have nst : ∀ b ∈ frs X.stack, b ≠ c := fun b hb z => by
    rcases List.mem_cons.mp (I.stkSub b hb) with e | e
    · exact I.cne y c hc (z.symm.trans e)
    · obtain ⟨_, o, ho, _⟩ := I.ok.funs.mem e
      exact absurd (Heap.lt_size ho) (Nat.not_lt.mpr (z ▸ I.ok.cab y c hfn hc))
  refine ⟨mod_keeps (base := X.base) ok.mod (baseC_keeps (X := X) I), ok.kind, ok.glob, ok.blt, ok.above, ok.inj, ok.has, ok.cab, ok.hd, ok.frames, ok.stk, ok.exf, fun b o e => ?_, Nat.le_of_eq (hidT_size _ _), fun b o e hb => ?_, ok.exfs, funFrames_base ok.funs fun b hb => ?_, ok.frf⟩
  · obtain ⟨h1, ⟨u, h2⟩ | h2⟩ := baseC_of e
    · exact ⟨h1, (I.bs b u h2).2⟩
    · exact ⟨h1, h2 ▸ I.freeC y c hc⟩
  · obtain ⟨h1, ⟨u, h2⟩ | h2⟩ := baseC_of e
    · exact ok.noex b u h2 hb
    · exact (hf b hb).1.2.2.2.2.1 y c hc h2.symm
  · cases q : (baseC X.base s.heap c).get? b with
    | none => rfl
    | some o =>
      obtain ⟨h1, ⟨u, h2⟩ | h2⟩ := baseC_of q
      · rw [(ok.funs.mem hb).1] at h2
        cases h2
      · exact absurd h2 (nst b hb)
theorem pe_base {B : Cx} {base' : Heap} {e : Expr} {t : TE} (ok : B.Ok → ({ B with base := base' } : Cx).Ok) (h : PE { B with base := base' } e t) : PE B e t :=
  ⟨fun pins s σ H Q I hw => wpAny_mono (h.run pins s σ H Q ⟨ok I.ok, I.os, I.bare, I.base, I.loc, I.cell, I.free, I.freeC, I.pin, I.hok, I.len⟩ hw)
    (fun v s' ⟨x, H', J, r, q⟩ => ⟨x, H', ⟨I.ok, J.os, J.bare, J.base, J.loc, J.cell, J.free, J.freeC, J.pin, J.hok, J.len⟩, r, q⟩) fun _ _ z => z⟩
end
/-! ### a call of a name that holds a function value -/
def GsIn (E : Env') (gs : List V) (gd : List D) : Prop := Paired (fun v d => ∃ j : Nat, E[j]? = some (Sl.vv v d)) gs gd
theorem gsIn_dpa {K : PySem.W.Frag} {F H : Hp} {σ : L2.St} {E : Env'} (I : EnvD K F H σ E) : ∀ {gs : List V} {gd : List D}, GsIn E gs gd → DpAll K F gs gd
  | _, _, .nil => .nil
  | _, _, .cons ⟨j, e⟩ t => by
    obtain ⟨o, ho, h1, h2⟩ := I.slot e
    exact .cons h2 (gsIn_dpa I t)
abbrev CalS := FnD → List V → List D → PX → Prop
def lCallF (i n : Nat) (S : CalS) (w : WA) : WL := fun E0 R RX => ∃ d gs gd f, E0[i]? = some (.fv d) ∧ S d gs gd f ∧ GsIn E0 gs gd ∧ w E0 fun xs E1 => E1 = E0 ∧ onO (frz xs) fun ds => ds.length = n ∧ f ds R RX
section
variable {X : Cx} {e : Expr} {es : List Expr} {pos p : Pos} {x : Str} {E : XK}
theorem pe_bodyCallF {i n k : Nat} {S : CalS} {w : WA} (hS : ∀ d gs gd f, S d gs gd f → CalOk X.prog X.w X.K X.mg X.base k n gs gd d f) (tk : Takes X fun cls d _ H => E cls d H) (hr : Room k X.A) (ha : PUA X.nox (e :: es) w)
    (hN : X.N[i]? = some x) (hv : Vis X.env.scope x) (hdb : (x == ("__debug__" : Str)) = false) (hcd : (x == ("__classdict__" : Str)) = false)
    (he : starEach (e :: es) X.env = (false, eval e X.env) :: starEach es X.env := by rfl) (hpl : (backTo pos (starEach es X.env)).any (·.1) = false := by rfl) : PE X (.Call (.Name x p) (e :: es) [] pos) (tBody X.K X.mg (lCallF i n S w) E) := by
  obtain ⟨t, pt, sa⟩ := ha.ex
  have pt' : PA X (e :: es) t := ⟨fun pos pins s σ H Q I hw => wpAny_mono (pt.run pos pins s σ H Q (I.wish _) hw) (fun _ _ ⟨v, H', I', r, q⟩ => ⟨v, H', I'.unwish, r, q⟩) fun _ _ z => False.elim z⟩
  refine ⟨fun pins s σ H Q I h => ?_⟩
  obtain ⟨F, E0, R, RX, I0, ⟨d, gs, gd, f, hs, hSd, hgs, hw⟩, kr, kx⟩ := h
  obtain ⟨o, ho, v, eo, hv1⟩ := I0.slot hs
  subst eo
  have C := hS d gs gd f hSd
  refine wpAny_Call_Name_kw (thn ((pe_var (pos := p) hN hv hdb hcd).run pins s σ H (fun v' H1 => v' = v ∧ H1 = H) I ⟨v, ho, rfl, rfl⟩) fun u s1 ⟨v', H1, I1, r1, q1⟩ => ?_)
  obtain ⟨e1, e2⟩ := q1
  subst e1
  subst e2
  obtain ⟨q, rfl, hfn⟩ := C.fn F H1 s1 v' u I0.sub I1.hok I1.kIn hv1 r1
  refine PySem.W.callWith_F hfn (thn (pt'.run pos pins s1 σ H1 (fun vs H2 => ∃ F2 ds, EnvD X.K F2 H2 σ E0 ∧ Ext F H1 F2 H2 σ E0 E0 ∧ DpAll X.K F2 vs ds ∧ ds.length = n ∧ f ds R RX) I1 ?_) fun us s2 ⟨vs, H2, I2, r2, F2, ds, J, X2, hd, hl, hf⟩ => ⟨?_, ?_⟩) he hpl
  · refine sa σ F H1 E0 _ _ I0 hw fun vs F2 H2 E1 xs I2 X2 r2 q2 => ?_
    obtain ⟨eE, q2⟩ := q2
    subst eE
    obtain ⟨ds, e1, hl, hf⟩ := onO_of q2
    exact ⟨F2, ds, I2, X2, frz_dpa r2 e1, hl, hf⟩
  · obtain ⟨q', eq, hfn'⟩ := C.fn F2 H2 s2 v' (.ref q) J.sub I2.hok I2.kIn (fnV_same X2.fz hv1) r1
    cases eq
    exact hfn'
  · have hx := passes_call (E := E) tk fun _ _ _ _ z => z
    have rc := C.run X.A X.stack s2 F2 H2 v' q us vs ds R RX Q E hr I2.env0 (fnV_same X2.fz hv1) r1 r2 J.sub hd (gsIn_dpa J hgs) hl hf
      (fun v F3 H3 d f1 f2 f3 f4 r q3 => kr v F3 H3 d (J.grow f1 f3 f2 f4) (X2.trans (Ext.grow f1 f3 f4)) r q3) (fun cls o F3 H3 xd f1 f2 f3 f4 r q3 => kx cls o F3 H3 xd (J.grow f1 f3 f2 f4) (X2.trans (Ext.grow f1 f3 f4)) r q3)
    refine wpAny_call (codeAny_mono rc fun r s' hq => ?_)
    cases r with
    | error e => exact hx pins σ H2 s2 e s' I2 hq
    | ok fl =>
      cases fl with
      | ret u => exact I2.after hq
      | next => exact False.elim hq
      | brk => exact False.elim hq
      | cont => exact False.elim hq
end
end AF

set_option Elab.async false
set_option linter.all false
set_option maxRecDepth 100000
set_option maxHeartbeats 4000000
/-! AF27: [met(lambda: f(..)) for f in fs]. -/
namespace AF
open PySem PySem.Spec PyProof.Rows L2
def stepsF (wl : FnD → (D → Prop) → (XD → Prop) → Prop) (fine : Str) (mr : (Str → Prop) → XD → Prop) : List FnD → (List Str → Prop) → Prop
  | [], Q => Q []
  | d :: ds, Q => wl d (fun _ => stepsF wl fine mr ds fun zs => Q (fine :: zs)) (mr fun z => stepsF wl fine mr ds fun zs => Q (z :: zs))
def envF (l m : Nat) (v0 : V) (dn : D) (E : Env') : Env' := (E.set m (.vv v0 dn)).set l .no
def wFnComp (i j l m n : Nat) (P : Addr) (q nn mm f wd fine : Str) (S : V → D → CalS) (w : WA) : WE := fun E Q => ∃ fs dn, E[l]? = some (.fl fs) ∧ E[m]? = some (.fz dn) ∧ E[i]? = some (.tb P q) ∧ E[j]? = some .no ∧ fs.length ≤ 1000 ∧
  ∀ v0, stepsF (fun d => lCallF j n (S v0 dn) w ((envF l m v0 dn E).set j (.fv d))) fine (metR nn mm f wd) fs fun zs => Q (.d (.list (zs.map .str))) E
section
variable {K : PySem.W.Frag} {F H : Hp} {σ : L2.St} {E : Env'}
theorem EnvD.forget (I : EnvD K F H σ E) (l : Nat) : EnvD K F H σ (E.set l .no) := by
  have key : ∀ j, OwnAt (E.set l .no) j → OwnAt E j := fun j o => by
    rcases own_set o with ⟨_, z⟩ | ⟨_, z⟩
    · cases z
    · exact z
  refine ⟨I.sub, by rw [List.length_set]; exact I.len, fun j s o e1 e2 => ?_, fun i j a hij o1 o2 => I.sep i j a hij (key i o1) (key j o2)⟩
  by_cases hj : l = j
  · subst hj
    have hl : l < E.length := by
      rw [← List.length_set (i := l) (a := Sl.no)]
      exact (List.getElem?_eq_some_iff.mp e1).1
    rw [List.getElem?_set_self hl] at e1
    cases e1
    exact True.intro
  · rw [List.getElem?_set_ne hj] at e1
    exact I.at_ j s o e1 e2
theorem get_ne {α : Type} {E : List α} {i j : Nat} {a b : α} (h1 : E[i]? = some a) (h2 : E[j]? = some b) (n : a ≠ b) : i ≠ j := fun z => by
  rw [z, h2] at h1
  exact n (Option.some.inj h1).symm
theorem set_get {α : Type} {E : List α} {i : Nat} {a : α} (h : E[i]? = some a) : E.set i a = E := by
  obtain ⟨hl, e⟩ := List.getElem?_eq_some_iff.mp h
  rw [← e]
  exact List.set_getElem_self hl
end
section
variable {X : Cx}
theorem pu_fnComp {i j l m n k : Nat} {st : Stmt} {a er nn mm f wd fine q x y ys num : Str} {c0 P c : Addr} {S : V → D → CalS} {w : WA} {e1 : Expr} {es : List Expr} {lparams : Arguments} {scope scopeC : Scope} {p1 p2 p3 p4 p5 p6 lpos pos : Pos}
    (M : MetF X.K X.mg x st a er nn mm f wd fine) (TB : LamX.TabB X.base X.mg c0 P) (hcode : X.env.code = .ref c0) (hq : q = X.env.qual ++ "<lambda>") (hr : Room (k + 2) X.A) (hgd : X.A.guards = some [])
    (hcell : X.env.cells.lookup num = some c) (hnum : X.N[m]? = some num) (hkn : X.env.scope.names.lookup num = some .cell) (hfn : X.fn num = true) (hc : X.calm = true)
    (hN : X.N.Nodup) (hy : X.N[j]? = some y) (hl : X.N[l]? = some ys) (hvl : Vis X.env.scope ys) (hdl : (ys == ("__debug__" : Str)) = false) (hcl : (ys == ("__classdict__" : Str)) = false) (hdy : (y == ("__debug__" : Str)) = false) (hcy : (y == ("__classdict__" : Str)) = false)
    (ok : BlkOk X.N X.env.scope scopeC [(y, j)]) (hyc : (scopeC.names.lookup y == some .cell) = true) (hloc : Loc (relS scopeC X.env.scope) y) (hgx : (relS scopeC X.env.scope).names.lookup x = some .globalImplicit) (hdb : (x == ("__debug__" : Str)) = false)
    (L : LamX.LamS (relS scopeC X.env.scope) scope) (hvy : scope.names.lookup y = some .free)
    (hdef : defaultsOf lparams X.env = ([], []))
    (hdef' : ∀ (C : Addr) (cl : List (Str × Addr)), defaultsOf lparams (compEnvC scopeC cl C X.env) = ([], []))
    (hbind : ∀ (body : Expr) (q : Str) (cl : List (Str × Addr)) (pm cv ctv : Value), bindArgs (PySem.W.kla_fn "<lambda>" q lparams body scope cl pm cv ctv) ⟨[], []⟩ = pure [])
    (hS : ∀ (base' : Heap) (v0 : V) (dn : D) (d : FnD) (gs : List V) (gd : List D) (f : PX), L2.Mod X.K X.mg base' → (∃ u, base'.IsCell c (some u) ∧ RelV v0 u) → S v0 dn d gs gd f → CalOk X.prog X.w X.K X.mg base' k n gs gd d f)
    (ha : ∀ (base' : Heap) (s0 : Shared) (H0 : Hp) (C : Addr) (cl : List (Str × Addr)) (fp : List Addr) (A : Around) (outer : List Env) (s : Shared) (H : Hp) (E : XK) (fa c' : Addr), PUA (LamX.lamCx { X.blk s0 H0 scopeC (compEnvC scopeC cl C X.env) fp with base := base' } A outer s H E scope fa c').nox (e1 :: es) w)
    (he : ∀ (env : Env), starEach (e1 :: es) env = (false, eval e1 env) :: starEach es env) (hpl : ∀ (env : Env), (backTo p3 (starEach es env)).any (·.1) = false) (hs : ∀ x, foldedSetIterable (.Name ys p6) X.env x = pure x) :
    PU X (.ListComp (.Call (.Name x p1) [.Lambda lparams (.Call (.Name y p2) (e1 :: es) [] p3) scope lpos] [] p4) [⟨.Name y p5, .Name ys p6, [], 0⟩] scopeC pos) (wFnComp i j l m n P q nn mm f wd fine S w) := by
  refine ⟨can X.K (wFnComp i j l m n P q nn mm f wd fine S w), ⟨fun pins s σ H Q I h => ?_⟩, snd_can⟩
  obtain ⟨F, E, Qd, IE, ⟨fs, dn, el, em, ei, ej, hlen, hw⟩, kk⟩ := h
  obtain ⟨o0, ho0, v0, eo0, hd0⟩ := IE.slot em
  subst eo0
  obtain ⟨ol, hol, La, xs, eol, hFl, hHl, hfs⟩ := IE.slot el
  subst eol
  have hw := hw v0
  refine lcx (own := [(y, j)]) hc hN I (pi_list (pe_var (i := l) hl hvl hdl hcl)) ok (g := gName j) (te := can X.K (wMet i P q nn mm f wd fine (lCallF j n (S v0 dn) w))) (fun s H C cl fp => pg_name (X := X.blk s H scopeC (compEnvC scopeC cl C X.env) fp) hN hy hloc (.inl hyc)) (fun s3 H3 C cl fp I3 hfp => ?_) hs ?_
  · refine pe_base (base' := baseC X.base s3.heap c) (fun okb => okBase I3 hfp hcell hfn okb) ?_
    have kb : ∀ b o, X.base.get? b = some o → (baseC X.base s3.heap c).get? b = some o := baseC_keeps I3
    have cellB : ∃ u, (baseC X.base s3.heap c).IsCell c (some u) ∧ RelV v0 u := by
      obtain ⟨m', _, hl'⟩ := I3.loc
      obtain ⟨u, r, q⟩ := hl' m num v0 hnum ho0 (.inr (.inl hkn))
      rcases q with ⟨k1, _⟩ | ⟨_, c', e', o, ho, hd⟩
      · have k1 : X.env.scope.names.lookup num = some .local := k1
        rw [hkn] at k1
        cases k1
      · rw [hcell] at e'
        cases e'
        exact ⟨u, ⟨o, baseC_get ho (.inr rfl), hd⟩, r⟩
    refine pu_can (pu_met (X := { X.blk s3 H3 scopeC (compEnvC scopeC cl C X.env) fp with base := baseC X.base s3.heap c }) (i := i) (k := k) M ⟨TB.code.keeps kb, TB.bm.keeps kb, TB.gP⟩ hcode hq hr hgd (fun A outer s4 H4 E4 fa c' hr4 => ?_) L hgx (hdef' C cl) (hbind _) hdb)
    exact pe_bodyCallF (X := LamX.lamCx { X.blk s3 H3 scopeC (compEnvC scopeC cl C X.env) fp with base := baseC X.base s3.heap c } A outer s4 H4 E4 scope fa c') (fun d gs gd f hSd => hS _ v0 dn d gs gd f (mod_keeps I3.mod kb) cellB hSd) (takes_of rfl rfl rfl rfl) hr4 (ha _ s3 H3 C cl fp A outer s4 H4 E4 fa c') hy (.inr (.inr hvy)) hdy hcy (he _) (hpl _)
  · refine ⟨.ref La, hol, La, rfl, ⟨xs, .inl (.inl hHl)⟩, fun D hD => ?_⟩
    have nlm : l ≠ m := get_ne el em fun z => by cases z
    have nlj : l ≠ j := get_ne el ej fun z => by cases z
    have nmj : m ≠ j := get_ne em ej fun z => by cases z
    have nim : i ≠ m := get_ne ei em fun z => by cases z
    have nil_ : i ≠ l := get_ne ei el fun z => by cases z
    have nij : i ≠ j := get_ne ei ej fun z => by cases z
    generalize hEb : envF l m v0 dn E = Eb at hw
    have lenE : Eb.length = E.length := by rw [← hEb]; unfold envF; rw [List.length_set, List.length_set]
    have getEb : ∀ t, t ≠ l → t ≠ m → Eb[t]? = E[t]? := fun t h1 h2 => by
      rw [← hEb]
      unfold envF
      rw [List.getElem?_set_ne (Ne.symm h1), List.getElem?_set_ne (Ne.symm h2)]
    have ebj : Eb[j]? = some .no := by rw [getEb j (Ne.symm nlj) (Ne.symm nmj)]; exact ej
    have ebl : Eb[l]? = some .no := by
      rw [← hEb]
      unfold envF
      rw [List.getElem?_set_self (by rw [List.length_set]; exact (List.getElem?_eq_some_iff.mp el).1)]
    have ebm : Eb[m]? = some (.vv v0 dn) := by
      rw [← hEb]
      unfold envF
      rw [List.getElem?_set_ne nlm, List.getElem?_set_self (List.getElem?_eq_some_iff.mp em).1]
    have IEb : EnvD X.K F H (wipe σ [j]) Eb := by
      have z := ((IE.setv m (s := .vv v0 dn) (v := v0) ⟨rfl, hd0⟩ (fun z => by cases z)).forget l).wipe2 [j]
      rw [set_get ho0] at z
      have e : wipeE ((E.set m (.vv v0 dn)).set l .no) [j] = Eb := by
        show ((E.set m (.vv v0 dn)).set l .no).set j .no = Eb
        have e2 : (E.set m (.vv v0 dn)).set l .no = Eb := hEb
        rw [e2]
        exact set_get ebj
      rw [e] at z
      exact z
    have ownEb : ∀ t, OwnAt Eb t → t ≠ l ∧ t ≠ m ∧ t ≠ j ∧ OwnAt E t := fun t ⟨s, e, o⟩ => by
      have h1 : t ≠ l := fun z => by rw [z, ebl] at e; cases e; cases o
      have h2 : t ≠ m := fun z => by rw [z, ebm] at e; cases e; cases o
      have h3 : t ≠ j := fun z => by rw [z, ebj] at e; cases e; cases o
      exact ⟨h1, h2, h3, s, by rw [← getEb t h1 h2]; exact e, o⟩
    have getw : ∀ t, t ≠ j → (wipe σ [j])[t]? = σ[t]? := fun t h => by
      rw [wipe_get, if_neg (by simpa using h)]
    have mineB : ∀ b, Mine (wipe σ [j]) Eb b → Mine σ E b := fun b ⟨t, ho, e⟩ => by
      obtain ⟨_, _, h3, h4⟩ := ownEb t ho
      exact ⟨t, h4, by rw [← getw t h3]; exact e⟩
    have notD : ¬ Mine (wipe σ [j]) Eb D := fun mm => by
      obtain ⟨o, e⟩ := IEb.mineSome mm
      rw [hD] at e
      cases e
    have notD' : ¬ Mine σ E D := fun mm => by
      obtain ⟨o, e⟩ := IE.mineSome mm
      rw [hD] at e
      cases e
    have notLa : ¬ Mine (wipe σ [j]) Eb La := fun ⟨t, ho, e⟩ => by
      obtain ⟨h1, _, h3, h4⟩ := ownEb t ho
      rw [getw t h3] at e
      exact IE.sep t l La h1 h4 ⟨_, el, rfl⟩ e hol
    have hxl := fnVs_len hfs
    refine lc_list (fun t H' => ∃ F' av zs, EnvD X.K F' H' (wipe σ [j]) Eb ∧ Ext F H F' H' (wipe σ [j]) Eb Eb ∧ F' D = none ∧ H' D = some (.lst av) ∧ DpAll X.K F' av ((zs : List Str).map .str) ∧ zs.length = t ∧
        stepsF (fun d => lCallF j n (S v0 dn) w (Eb.set j (.fv d))) fine (metR nn mm f wd) (fs.drop t) fun zs2 => Qd (.d (.list ((zs ++ zs2).map .str))) E)
      ⟨F, [], [], IEb.push hD, Ext.push hD, IE.sub.free hD, upd_same, .nil, rfl, hw⟩ (fun t H' _ ⟨F', av, zs, I', X', _⟩ => .inl (.inl (X'.keep _ _ hHl notLa))) (fun t v H' hv ⟨F', av, zs, I', X', fD, hDs, hav, hz, qq⟩ => ?_) (fun H' ⟨F', av, zs, I', X', fD, hDs, hav, hz, qq⟩ => ?_)
    · obtain ⟨d, hd, rd⟩ := L2.paired_get hfs hv
      obtain ⟨ht, hdt⟩ := List.getElem?_eq_some_iff.mp hd
      rw [List.drop_eq_getElem_cons ht, hdt] at qq
      have I2 : EnvD X.K F' H' ((wipe σ [j]).set j (some v)) (Eb.set j (.fv d)) := I'.setv j ⟨v, rfl, fnV_same X'.fz rd⟩ (fun z => by cases z)
      have wp : wipe ((wipe σ [j]).set j (some v)) [j] = wipe σ [j] := by
        show ((σ.set j none).set j (some v)).set j none = σ.set j none
        rw [List.set_set, List.set_set]
      refine ⟨wp, ?_⟩
      simp only [tYes, if_true]
      generalize hE2 : Eb.set j (.fv d) = E2 at I2
      have e2i : E2[i]? = some (.tb P q) := by
        rw [← hE2, List.getElem?_set_ne (Ne.symm nij), getEb i nil_ nim]
        exact ei
      have wiE : wipeE E2 [j] = Eb := by
        rw [← hE2]
        show (Eb.set j (.fv d)).set j .no = Eb
        rw [List.set_set]
        exact set_get ebj
      have mine2 : ∀ b, Mine ((wipe σ [j]).set j (some v)) E2 b → Mine (wipe σ [j]) Eb b := fun b mm => by
        rw [← hE2] at mm
        rcases mine_set mm with ⟨z, _⟩ | z
        · cases z
        · exact z
      let A : Str → Prop := fun z => stepsF (fun d => lCallF j n (S v0 dn) w (Eb.set j (.fv d))) fine (metR nn mm f wd) (fs.drop (t + 1)) fun zs2 => Qd (.d (.list ((zs ++ z :: zs2).map .str))) E
      let Q2 : VD → Env' → Prop := fun xx E5 => E5 = E2 ∧ match xx with
        | .d (.str z) => A z
        | _ => False
      have eA : ∀ z, Q2 (.d (.str z)) E2 = A z := fun z => propext ⟨fun h => h.2, fun h => ⟨rfl, h⟩⟩
      refine ⟨F', E2, Q2, I2, ⟨e2i, ?_⟩, fun v5 F5 H5 E5 xx I5 X5 r5 q5 => ?_⟩
      · have g1 : (fun (_ : PyData) => Q2 (.d (.str fine)) E2) = fun _ => A fine := funext fun _ => eA fine
        have g2 : (fun z => Q2 (.d (.str z)) E2) = A := funext eA
        rw [g1, g2, ← hE2]
        exact qq
      · obtain ⟨e5, q5⟩ := q5
        subst e5
        obtain ⟨z, rfl, hA⟩ : ∃ z, xx = .d (.str z) ∧ A z := by
          cases xx with
          | own t => exact q5.elim
          | d dd =>
            cases dd with
            | str z => exact ⟨z, rfl, q5⟩
            | _ => exact q5.elim
        have J : EnvD X.K F5 H5 (wipe σ [j]) Eb := by
          have z := I5.unwiped (σ := wipe σ [j]) (vs := [j]) (by exact wp.trans (wipe_wipe σ [j]).symm)
          rw [wiE] at z
          exact z
        have X2 : Ext F' H' F5 H5 (wipe σ [j]) Eb Eb := ⟨X5.fz, X5.new, fun b o e nm => X5.keep b o e fun mm => nm (mine2 b mm), X5.live, rfl, fun _ => ⟨Iff.rfl, fun _ => rfl⟩⟩
        have h5D : H5 D = some (.lst av) := X2.keep D _ hDs notD
        have f5D : F5 D = none := by
          cases z5 : F5 D with
          | none => rfl
          | some u =>
            rcases X5.new D u z5 with r | r
            · rw [fD] at r; cases r
            · rw [hDs] at r; cases r
        have lv := dpa_len hav
        have X3 := X'.trans X2
        refine ⟨av, h5D, ?_, F5, av ++ [v5], zs ++ [z], J.poke f5D notD, ⟨X3.fz, X3.new, fun b o e nm => ?_, fun b o e => ?_, X3.kin⟩, f5D, upd_same, ?_, by rw [List.length_append, hz]; rfl, ?_⟩
        · rw [lv, List.length_map, hz]
          exact Nat.lt_of_lt_of_le ht (line1000 hlen)
        · rw [upd_ne (ne_of_none e hD)]
          exact X3.keep b o e nm
        · rw [upd_ne (ne_of_none e hD)]
          exact X3.live b o e
        · rw [List.map_append]
          exact dpa_append (dpa_same X5.fz hav) (.cons r5 .nil)
        · have e : (fun zs2 => Qd (.d (.list (((zs ++ [z]) ++ zs2).map .str))) E) = fun zs2 => Qd (.d (.list ((zs ++ z :: zs2).map .str))) E := funext fun zs2 => by rw [List.append_assoc]; rfl
          rw [e]
          exact hA
    · have eL : fs.drop xs.length = [] := by rw [hxl]; exact List.drop_length
      rw [eL] at qq
      have qq : Qd (.d (.list ((zs ++ []).map .str))) E := qq
      rw [List.append_nil] at qq
      have fLa : F' La = none := by
        cases z5 : F' La with
        | none => rfl
        | some u =>
          rcases X'.new La u z5 with r | r
          · rw [hFl] at r; cases r
          · rw [hHl] at r; cases r
      have JE : EnvD X.K F' H' σ E := by
        refine ⟨I'.sub, IE.len, fun t s o g1 g2 => ?_, IE.sep⟩
        by_cases tl : t = l
        · subst tl
          rw [el] at g1
          rw [hol] at g2
          cases g1
          cases g2
          exact ⟨La, xs, rfl, fLa, X'.keep _ _ hHl notLa, fnVs_same X'.fz hfs⟩
        · by_cases tm : t = m
          · subst tm
            rw [em] at g1
            rw [ho0] at g2
            cases g1
            cases g2
            exact ⟨v0, rfl, dp_same X'.fz hd0⟩
          · by_cases tj : t = j
            · subst tj
              rw [ej] at g1
              cases g1
              exact True.intro
            · exact I'.at_ t s o (by rw [getEb t tl tm]; exact g1) (by rw [getw t tj]; exact g2)
      have sm : Same F' (upd F' D (.lst av)) := same_upd fD
      refine kk _ (upd F' D (.lst av)) H' E (.d (.list (zs.map .str))) (JE.freeze fD hDs notD') ⟨X'.fz.trans sm, fun b o e => ?_, fun b o e nm => X'.keep b o e fun mm => nm (mineB b mm), X'.live, rfl, fun _ => ⟨Iff.rfl, fun _ => rfl⟩⟩ (Dp.lst upd_same (dpa_same sm hav)) qq
      by_cases hb : b = D
      · subst hb
        exact .inr hD
      · rw [upd_ne hb] at e
        exact X'.new b o e
end
end AF

set_option Elab.async false
set_option linter.all false
set_option maxRecDepth 100000
set_option maxHeartbeats 4000000
/-! AF28: an empty dict, repr, str of an int, repeated tuples and lists, is None, max of a list, stars in a display. -/
namespace AF
open PySem PySem.Spec PyProof.Rows L2
theorem bb_repr : bootBuiltins "repr" = some (.builtin "repr") := by decide +kernel
section
variable {X : Cx} {K : PySem.W.Frag} {a b e : Expr} {es : List Expr} {pos p : Pos} {x : Str}
def empD : D := .dict [(.bool true, .none)]
theorem pu_emp : PU X (.Dict [] [] pos) (wC empD) := ⟨_, pe_dnewK, fun σ F H E Qd Q I q k => fun p hp =>
  k _ (upd F p (.dK [])) _ E (.d empD) (I.lay hp) (Ext.lay I.sub hp) (Dp.emp upd_same) q⟩
def fRepr : FC := fun ds k => match ds with
  | [d] => reprOk d = true ∧ k (.str (reprD d))
  | _ => False
theorem sc_repr : SndC K (rRepr K) fRepr := by
  intro vs F H σ E ds Qd Q I h q k
  match ds, h, q with
  | [d], h, q =>
    obtain ⟨v, rfl, h1⟩ := h.one
    obtain ⟨ok, q⟩ := q
    rcases h1 with h1 | ⟨c, xs, ds', rfl, rfl, hF, hH, hd⟩
    · exact ⟨v, d, rfl, dp_same I.sub h1, ok, k _ F H (.str _) I (Ext.refl _ _ _ _) (.str _) q⟩
    · exact ⟨_, .list ds', rfl, .lst hH (dpa_same I.sub hd), ok, k _ F H (.str _) I (Ext.refl _ _ _ _) (.str _) q⟩
def fStr : FC := fun ds k => match ds with
  | [.int i] => i.natAbs.log2 < 1920 ∧ k (.str (toString i))
  | _ => False
theorem sc_str : SndC K (fun xs H Q => ∃ i, xs = [.int i] ∧ i.natAbs.log2 < 1920 ∧ Q (.str (toString i)) H) fStr := by
  intro vs F H σ E ds Qd Q I h q k
  match ds, h, q with
  | [.int i], h, q =>
    obtain ⟨v, rfl, h1⟩ := h.one
    cases h1.dp I.sub
    exact ⟨i, rfl, q.1, k _ F H _ I (Ext.refl _ _ _ _) (.str _) q.2⟩
theorem dpa_rep {F : Hp} {vs : List V} {ds : List D} (h : DpAll K F vs ds) : ∀ n : Nat, DpAll K F (List.replicate n vs).flatten (List.replicate n ds).flatten
  | 0 => .nil
  | n + 1 => by
    rw [List.replicate_succ, List.replicate_succ, List.flatten_cons, List.flatten_cons]
    exact dpa_append h (dpa_rep h n)
def fRepT : F2 := fun a b k => match a, b with
  | .tuple xs, .int i => xs ≠ [] ∧ 2 ≤ i ∧ i ≤ 1000 ∧ xs.length ≤ 1000 ∧ k (.tuple (List.replicate i.toNat xs).flatten)
  | _, _ => False
theorem sr_repT : SndR K (rRepT K) fRepT := by
  intro x y F H σ E a b Qd Q I h1 h2 h k
  have hb := h2.dp I.sub
  cases a <;> first | exact False.elim h | skip
  rename_i xs
  cases hb <;> first | exact False.elim h | skip
  rename_i i
  obtain ⟨g1, g2, g3, g4, h⟩ := h
  obtain ⟨p, vs, rfl, hs, ha⟩ := h1.tup I.sub
  have hl := dpa_len ha
  refine ⟨p, i, vs, rfl, rfl, sqT_of (I.sub _ _ hs), fun z => g1 ?_, g2, g3, by rw [hl]; exact g4, fin_tup I (dpa_rep ha _) fun v F' H' I' X' r' => k v F' H' _ I' X' r' h⟩
  subst z
  exact dpa_nil ha
def fRepL : F2 := fun a b k => match a, b with
  | .list xs, .int i => 0 ≤ i ∧ i ≤ 1000 ∧ xs.length ≤ 1000 ∧ k (.list (List.replicate i.toNat xs).flatten)
  | _, _ => False
theorem sr_repL : SndR K rRep fRepL := by
  intro x y F H σ E a b Qd Q I h1 h2 h k
  have hb := h2.dp I.sub
  cases a <;> first | exact False.elim h | skip
  rename_i xs
  cases hb <;> first | exact False.elim h | skip
  rename_i i
  obtain ⟨g2, g3, g4, h⟩ := h
  obtain ⟨p, vs, rfl, hs, ha⟩ := h1.listT I.sub
  have hl := dpa_len ha
  refine ⟨p, i, vs, rfl, rfl, hs, by omega, by omega, ?_, fin_lst I (dpa_rep ha _) fun v F' H' I' X' r' => k v F' H' _ I' X' r' h⟩
  refine Nat.le_trans (Nat.mul_le_mul (show vs.length ≤ 1000 by rw [hl]; exact g4) (show i.toNat ≤ 1000 by omega)) (by decide)
def isNon : D → Bool
  | .none => true
  | _ => false
theorem isNon_iff {F : Hp} {v : V} {d : D} (h : Dp K F v d) : decide (v = .non) = isNon d := by
  cases h <;> first | rfl | (apply decide_eq_false; intro z; cases z)
def fIsN : F2 := fun a b k => match b with
  | .none => k (.bool (isNon a))
  | _ => False
def fNotN : F2 := fun a b k => match b with
  | .none => k (.bool (!isNon a))
  | _ => False
theorem sr_isN : SndR K (fun x y H Q => y = .non ∧ Q (.bl (decide (x = .non))) H) fIsN := by
  intro x y F H σ E a b Qd Q I h1 h2 h k
  have hb := h2.dp I.sub
  cases hb <;> first | exact False.elim h | skip
  refine ⟨rfl, ?_⟩
  rcases h1 with h1 | ⟨c, xs, ds', rfl, rfl, hF, hH, hd⟩
  · rw [isNon_iff h1]
    exact k _ F H (.bool _) I (Ext.refl _ _ _ _) (.bl _) h
  · exact k _ F H (.bool false) I (Ext.refl _ _ _ _) (.bl _) h
theorem sr_notN : SndR K (fun x y H Q => y = .non ∧ Q (.bl (!decide (x = .non))) H) fNotN := by
  intro x y F H σ E a b Qd Q I h1 h2 h k
  have hb := h2.dp I.sub
  cases hb <;> first | exact False.elim h | skip
  refine ⟨rfl, ?_⟩
  rcases h1 with h1 | ⟨c, xs, ds', rfl, rfl, hF, hH, hd⟩
  · rw [isNon_iff h1]
    exact k _ F H (.bool _) I (Ext.refl _ _ _ _) (.bl _) h
  · exact k _ F H (.bool true) I (Ext.refl _ _ _ _) (.bl _) h
def intsD : List D → Option (List Int)
  | [] => some []
  | .int i :: r => (intsD r).map (i :: ·)
  | _ :: _ => none
theorem intsD_v {F : Hp} : ∀ {xs : List V} {ds : List D} {ns : List Int}, DpAll K F xs ds → intsD ds = some ns → xs = ns.map V.int
  | _, _, ns, .nil, e => by cases Option.some.inj e; rfl
  | _, d :: ds, ns, .cons h t, e => by
    cases d <;> first | (cases e; done) | skip
    rename_i i
    cases h
    cases q : intsD ds with
    | none =>
      have e : (intsD ds).map (i :: ·) = some ns := e
      rw [q] at e
      cases e
    | some ms =>
      have e : (intsD ds).map (i :: ·) = some ns := e
      rw [q] at e
      cases Option.some.inj e
      rw [intsD_v t q]
      rfl
def fMaxL : FC := fun ds k => match ds with
  | [.list xs] => onO (intsD xs) fun ns => 0 < ns.length ∧ ∀ m, m ∈ ns → (∀ y, y ∈ ns → y ≤ m) → k (.int m)
  | _ => False
theorem sc_maxL : SndC K (rMax K) fMaxL := by
  intro vs F H σ E ds Qd Q I h q k
  match ds, h, q with
  | [.list xs], h, q =>
    obtain ⟨v, rfl, h1⟩ := h.one
    obtain ⟨ns, e, hl, q⟩ := onO_of (show onO (intsD xs) (fun ns => 0 < ns.length ∧ ∀ m, m ∈ ns → (∀ y, y ∈ ns → y ≤ m) → Qd (.int m)) from q)
    obtain ⟨p, us, rfl, hs, ha⟩ := h1.list I.sub
    have e2 := intsD_v ha e
    subst e2
    exact ⟨p, ns, rfl, hs, hl, fun m h1 h2 => k _ F H (.int m) I (Ext.refl _ _ _ _) (.int m) (q m h1 h2)⟩
/-- [.., *e, ..] -/
def wStar (w : WE) (ws : WA) : WA := fun E Q => w E fun x E1 => onD x fun d => match d with
  | .list ds => ws E1 fun ys E2 => Q (ds.map .d ++ ys) E2
  | .tuple ds => ws E1 fun ys E2 => Q (ds.map .d ++ ys) E2
  | _ => False
theorem rvs_dpa {F : Hp} {σ : L2.St} : ∀ {vs : List V} {ds : List D} {us : List V} {ys : List VD}, DpAll K F vs ds → RVs K F σ us ys → RVs K F σ (vs ++ us) (ds.map .d ++ ys)
  | _, _, _, _, .nil, r => r
  | _, _, _, _, .cons h t, r => .cons h (rvs_dpa t r)
theorem pua_star {w : WE} {ws : WA} (h : PU X e w) (hs : PUA X es ws) (hst : starEach (.Starred e p :: es) X.env = (true, eval e X.env) :: starEach es X.env := by rfl) : PUA X (.Starred e p :: es) (wStar w ws) := by
  obtain ⟨ta, pa, sa⟩ := h.ex
  obtain ⟨tb, pb, sb⟩ := hs.ex
  refine ⟨_, StX.pa_star pa pb hst, fun σ F H E Qd Q I q k => ?_⟩
  refine sa σ F H E _ _ I q fun v F1 H1 E1 x I1 X1 r1 q1 => ?_
  obtain ⟨d, rfl, q2⟩ := onD_of q1
  have r1 : Dp X.K F1 v d := r1
  cases d <;> first | exact False.elim q2 | skip
  · cases r1 with
    | lst hs1 ha1 => exact ⟨_, _, rfl, .inr (.inl (.inl (I1.sub _ _ hs1))), sb σ F1 H1 E1 _ _ I1 q2 fun vs F2 H2 E2 xs I2 X2 r2 q3 => k _ F2 H2 E2 _ I2 (X1.trans X2) (rvs_dpa (dpa_same X2.fz ha1) r2) q3⟩
  · cases r1 with
    | tup hs1 ha1 => exact ⟨_, _, rfl, .inl (sqT_of (I1.sub _ _ hs1)), sb σ F1 H1 E1 _ _ I1 q2 fun vs F2 H2 E2 xs I2 X2 r2 q3 => k _ F2 H2 E2 _ I2 (X1.trans X2) (rvs_dpa (dpa_same X2.fz ha1) r2) q3⟩
end
end AF

set_option Elab.async false
set_option linter.all false
set_option maxRecDepth 100000
set_option maxHeartbeats 4000000
/-! AF29: raising defs told, places of tables, a def that takes data and keeps tables. -/
namespace AF
open PySem PySem.Spec PyProof.Rows L2
section
variable {P : Program} {w : World} {K : PySem.W.Frag} {mg : Str → Option Value} {base : Heap}
abbrev FnPD (K : PySem.W.Frag) (x : Str) (st : Stmt) (dvs : List V) (f : Addr) (fd : FuncData) : Prop := FunD K x x (defArgs st) (defBody st) (defScope st) dvs [] f fd
abbrev DefAtD (K : PySem.W.Frag) (mg : Str → Option Value) (x : Str) (st : Stmt) (dvs : List V) : Prop := ∃ f fd, mg x = some (.ref f) ∧ FnPD K x st dvs f fd
theorem has_xd {x : Str} {st : Stmt} {N ps : List Str} {k n : Nat} {p : PX} {dvs : List V} (D : DefAtD K mg x st dvs) (S : FnScope N ps (defScope st)) (hn : ps.length = n) (hbi : ∀ {f fd}, FnPD K x st dvs f fd → Binds K fd ps [])
    (hb : ∀ (f : Addr) (fd : FuncData) (F : FnPD K x st dvs f fd) (cdv : Value) (A : Around) (outer : List Env) (s : Shared) (H : Hp) (E : XK), Room k (A.deeper (envOfC x (defScope st) s.heap.objs.size f cdv)) → ∃ w', PUXs (cxOf (L2.CX P w) P w K mg base N x (defScope st) f cdv A outer s H E) E (defBody st) w' ∧ ∀ ds R RX, ds.length = n → p ds R RX → w' RX (endD R) (startE N.length ds)) :
    HasX P w K mg base x (k + 1) ps (spX K mg n p) := by
  obtain ⟨f, fd, hm, F⟩ := D
  exact ⟨f, fd, hm, F.kp, hbi F, fn_x F S hn fun cdv A outer s H E hr => hb f fd F cdv A outer s H E hr⟩
theorem startO_no {n : Nat} {a : Addr} {es : List D} {i : Nat} (h : i + 1 < n) : (startO n a es [])[i + 1]? = some .no := by
  show (([] : List D).map Sl.fz ++ List.replicate (n - (([] : List D).length + 1)) Sl.no)[i]? = some .no
  rw [List.map_nil, List.nil_append, List.getElem?_replicate, if_pos (by simp; omega)]
theorem startO_notb {n : Nat} {a : Addr} {es : List D} {j : Nat} {c : Addr} {q : Str} : (startO n a es [])[j]? ≠ some (Sl.tb c q) := fun e => by
  obtain ⟨_, z⟩ := startO_get e rfl
  cases z
theorem free1 {n i : Nat} {P : Addr} {q : Str} (h : i + 1 < n) (a : Addr) (es : List D) : FreeT [(i + 1, P, q)] (startO n a es []) := ⟨startO_no h, fun _ _ _ e => absurd e startO_notb, trivial⟩
/-- the places of many tables, from a place on -/
def rowT (i : Nat) : List (Addr × Str) → List (Nat × Addr × Str)
  | [] => []
  | t :: T => (i, t.1, t.2) :: rowT (i + 1) T
theorem rowT_map : ∀ (T : List (Addr × Str)) (i : Nat), (rowT i T).map (·.2) = T
  | [], _ => rfl
  | t :: T, i => by
    show (t.1, t.2) :: (rowT (i + 1) T).map (·.2) = t :: T
    rw [rowT_map T (i + 1)]
theorem free_row : ∀ (T : List (Addr × Str)) (i : Nat) (E : Env'), (∀ j, i ≤ j → j < i + T.length → E[j]? = some .no) → (∀ (j : Nat) (c : Addr) (q : Str), E[j]? = some (Sl.tb c q) → ∀ t ∈ T, c ≠ t.1) → (T.map (·.1)).Nodup → FreeT (rowT i T) E
  | [], _, _, _, _, _ => trivial
  | t :: T, i, E, h1, h2, h3 => by
    rw [List.map_cons, List.nodup_cons] at h3
    have hi : E[i]? = some .no := h1 i (Nat.le_refl _) (by rw [List.length_cons]; omega)
    have hl : i < E.length := (List.getElem?_eq_some_iff.mp hi).1
    refine ⟨hi, fun j c q e => h2 j c q e t (List.mem_cons_self ..), free_row T (i + 1) _ (fun j g1 g2 => ?_) (fun j c q e u hu => ?_) h3.2⟩
    · rw [List.getElem?_set_ne (show i ≠ j by omega)]
      exact h1 j (by omega) (by rw [List.length_cons]; omega)
    · by_cases hj : i = j
      · subst hj
        rw [List.getElem?_set_self hl] at e
        cases e
        intro z
        exact h3.1 (List.mem_map.mpr ⟨u, hu, z.symm⟩)
      · rw [List.getElem?_set_ne hj] at e
        exact h2 j c q e u (List.mem_cons_of_mem _ hu)
/-! ### a def that takes data and keeps tables -/
def spT0 (K : PySem.W.Frag) (n : Nat) (T : List (Addr × Str)) (p : PD) : Sp := fun vs H Q _ => vs.length = n ∧ ∃ F ds R, Same F H ∧ DpAll K F vs ds ∧ TabsAt F H T ∧ p ds R ∧ ∀ v F' H' d, Same F' H' → Dp K F' v d → R d → Q v H'
theorem startE_no {n : Nat} {ds : List D} {i : Nat} (h : ds.length ≤ i) (h2 : i < n) : (startE n ds)[i]? = some .no := by
  unfold startE
  rw [List.getElem?_append_right (by rw [List.length_map]; exact h), List.getElem?_replicate, List.length_map, if_pos (by omega)]
theorem startE_notb {n : Nat} {ds : List D} {j : Nat} {c : Addr} {q : Str} : (startE n ds)[j]? ≠ some (Sl.tb c q) := fun e => by
  unfold startE at e
  rw [List.getElem?_append] at e
  split at e
  · rw [List.getElem?_map] at e
    cases z : ds[j]? with
    | none => rw [z] at e; cases e
    | some d => rw [z] at e; cases e
  · rw [List.getElem?_replicate] at e
    split at e <;> cases e
theorem has_t0 {x : Str} {st : Stmt} {N ps : List Str} {k n i : Nat} {p : PD} {T : List (Addr × Str)} (D : DefAt K mg x st) (S : FnScope N ps (defScope st)) (hn : ps.length = n) (hbi : ∀ {f fd}, FnP K x st f fd → Binds K fd ps []) (hT : ∀ t ∈ rowT i T, ∃ y, N[t.1]? = some y ∧ ¬ Vis (defScope st) y)
    (hi : n ≤ i) (hi2 : i + T.length ≤ N.length) (nd : (T.map (·.1)).Nodup)
    (hb : ∀ (f : Addr) (fd : FuncData) (Fm : mg x = some (.ref f)) (F : FnP K x st f fd) (A : Around) (outer : List Env) (s : Shared) (H : Hp), A.guards = some [] → Room k (A.deeper (envOfC x (defScope st) s.heap.objs.size f fd.code)) → ∃ w', PUSs (cxOf C8.CX0 P w K mg base N x (defScope st) f fd.code A outer s H C8.E0).nox (defBody st) w' ∧ ∀ ds R, ds.length = n → p ds R → w' (endD R) (ghostE (rowT i T) (startE N.length ds))) :
    HasG P w K mg base x k ps (spT0 K n T p) := by
  obtain ⟨f, fd, hm, Fd⟩ := D
  refine ⟨st, f, fd, N, hm, Fd, S, hbi Fd, fun vs H Q E h => h.1.trans hn.symm, fun A outer s H vs Q hgd hr hsp => ?_⟩
  obtain ⟨hl, F, ds, R, sub, hd, hTb, hp, hq⟩ := hsp
  obtain ⟨w', pw, hw⟩ := hb f fd hm Fd A outer s H hgd hr
  obtain ⟨t, pt, st'⟩ := pw.ex
  have hl2 : ds.length = n := by rw [← dpa_len hd]; exact hl
  have I0 := env_ghosts (rowT i T) (start_env N sub hd) (free_row T i _ (fun j h1 h2 => startE_no (by omega) (by omega)) (fun j c q e => absurd e startE_notb) nd) (fun t ht => hTb t.2 (by rw [← rowT_map T i]; exact List.mem_map.mpr ⟨t, ht, rfl⟩))
  refine ⟨_, pss_ghost (T := rowT i T) pt hT, ?_⟩
  refine st' _ F H _ (endD R) _ I0 (hw ds R hl2 hp) ⟨fun F' H' σ' E' I' X' q => ?_, fun _ _ _ _ _ _ q => q.elim, fun _ _ _ _ _ _ q => q.elim, fun v H' d E' r q => ?_⟩
  · exact hq .non F' H' .none I'.sub .non q
  · obtain ⟨F', h1, h2, h3, h4, h5, h6, h7⟩ := r.ex
    exact hq v F' H' d h1 h6 q
end
end AF

set_option Elab.async false
set_option linter.all false
set_option maxRecDepth 100000
set_option maxHeartbeats 4000000
/-! AF30: a law row's end: the law's promise, where no guard runs, with tables that are empty at the start. -/
namespace AF
open PySem PySem.Spec PyProof.Rows L2 PySem.W
section
variable {P : Program} {w : World} {K : PySem.W.Frag} {mg mb : Str → Option Value}
/-- the heap that is tracked at the start: the script (where K does not tell it), the tables -/
def startH (K : PySem.W.Frag) (cs : List (Addr × Addr)) (a : Addr) (vs : List Value) (ns : List Int) : Hp := fun b =>
  if b ∈ cs.map (·.2) then some (.tbl #[]) else if b = a then (match K.lookup a with
    | some _ => none
    | none => some (.frz { cls := .type "list", data := .seq vs.toArray } (.lst (ns.map V.int)))) else none
def startF (K : PySem.W.Frag) (cs : List (Addr × Addr)) (a : Addr) (vs : List Value) (ns : List Int) : Hp := fun b => if b ∈ cs.map (·.2) then none else startH K cs a vs ns b
theorem law_endG {k : Nat} {x : Str} {fa a : Addr} {cs : List (Addr × Addr)} {T : List (Addr × Str)} {p : PD} {s₁ : Shared} {vs : List Value} {ns : List Int} {d0 : D}
    (KX : K.In s₁.heap) (hns : s₁.heap.Ns mainGlobals mg) (hb : s₁.heap.Ns builtinsNs mb) (hbb : ∀ x : Str, x ≠ "__name__" → mb x = bootBuiltins x) (hlim : s₁.heap.NoLimit) (hg : s₁.gens = #[])
    (hT : ∀ p ∈ cs, s₁.heap.get? p.2 = some { cls := .none, data := .fields #[] }) (nT : ∀ p ∈ cs, K.lookup p.2 = none) (C : ∀ p ∈ cs, PySem.W.CodeHd s₁.heap p.1 p.2)
    (hbm : ∃ (bm : Addr) (ob : Obj), mg "__builtins__" = some (.ref bm) ∧ bm ≠ builtinsNs ∧ s₁.heap.get? bm = some ob ∧ ob.cls = .type "module" ∧ ob.dict = some builtinsNs ∧ ob.data = .plain)
    (ha : s₁.heap.get? a = some { cls := .type "list", data := .seq vs.toArray }) (hi : IntsAre vs ns) (hl : ns.length ≤ sizeLine) (hr : Room (k + 1) callerA) (hmg : mg x = some (.ref fa)) {ps : List Str} (hps : ps.length = 1)
    (F : ∀ base : Heap, K.In base → base.Ns mainGlobals mg → (∀ p ∈ cs, LamX.TabB base mg p.1 p.2) → HasG P w K mg base x k ps (spT0 K 1 T p)) (hTcs : ∀ t ∈ T, t.1 ∈ cs.map (·.2))
    (hd0 : ∀ Fh : Hp, SqL K Fh a (ns.map V.int) → Dp K Fh (.ref a) d0) (hp : p [d0] fun d => d = .bool true) :
    codeAny (model P w) callerA (.call (.ref fa) ⟨[.ref a], []⟩) (fun r s' => r = .ok (.ret (.bool true)) ∧ OldK s₁.heap s'.heap ∧ s'.os = s₁.os ∧ AllBare s'.gens) s₁ := by
  have rv := vals_ints hi
  have isT : ∀ b : Addr, b ∈ cs.map (·.2) → s₁.heap.get? b = some { cls := .none, data := .fields #[] } := fun b hb => by
    obtain ⟨p, hp, e⟩ := List.mem_map.mp hb
    exact e ▸ hT p hp
  have noT : ∀ {b : Addr} {o : Obj}, s₁.heap.get? b = some o → o.data ≠ .fields #[] → b ∉ cs.map (·.2) := fun {b o} e n z => by
    rw [isT b z] at e
    cases e
    exact n rfl
  have aT : a ∉ cs.map (·.2) := noT ha fun z => by cases z
  generalize hH : startH K cs a vs ns = H
  have atT : ∀ b, b ∈ cs.map (·.2) → H b = some (.tbl #[]) := fun b hb => by rw [← hH]; exact if_pos hb
  have atN : ∀ b, b ∉ cs.map (·.2) → b ≠ a → H b = none := fun b h1 h2 => by
    rw [← hH]
    exact (if_neg h1).trans (if_neg h2)
  have atA : H a = (match K.lookup a with
    | some _ => none
    | none => some (.frz { cls := .type "list", data := .seq vs.toArray } (.lst (ns.map V.int)))) := by
    rw [← hH]
    exact (if_neg aT).trans (if_pos rfl)
  have inv : ∀ b u, H b = some u → (b ∈ cs.map (·.2) ∧ u = .tbl #[]) ∨ (b = a ∧ K.lookup a = none ∧ u = .frz { cls := .type "list", data := .seq vs.toArray } (.lst (ns.map V.int))) := fun b u e => by
    by_cases h1 : b ∈ cs.map (·.2)
    · rw [atT b h1] at e
      cases e
      exact .inl ⟨h1, rfl⟩
    · by_cases h2 : b = a
      · subst h2
        rw [atA] at e
        cases q : K.lookup b with
        | some o => rw [q] at e; cases e
        | none =>
          rw [q] at e
          cases e
          exact .inr ⟨rfl, rfl, rfl⟩
      · rw [atN b h1 h2] at e
        cases e
  have hok : HOk P w H s₁.heap := fun b u e => by
    rcases inv b u e with ⟨h1, rfl⟩ | ⟨rfl, _, rfl⟩
    · exact isT b h1
    · exact ⟨ha, by rw [List.length_map]; exact hl, vs, _, rv, ha⟩
  have free : ∀ {b : Addr} {o : Obj}, s₁.heap.get? b = some o → o.data ≠ .fields #[] → b ≠ a → H b = none := fun e n1 n2 => atN _ (noT e n1) n2
  have kept : ∀ {b : Addr} {o : Obj}, s₁.heap.get? b = some o → o.data ≠ .fields #[] → (∀ vs n, o.data ≠ .seq vs n) → (hidT s₁.heap H).get? b = some o := fun {b o} e n1 n2 => hidT_get e (free e n1 fun z => by
    subst z
    rw [ha] at e
    cases e
    exact n2 _ _ rfl)
  have nsK : ∀ {b : Addr} {m : Str → Option Value}, s₁.heap.Ns b m → (hidT s₁.heap H).Ns b m := fun {b m} ⟨o, es, ep, e, d, r⟩ => ⟨o, es, ep, kept e (by rw [d]; exact fun z => by cases z) (by rw [d]; exact fun _ _ z => by cases z), d, r⟩
  have hKb : K.In (hidT s₁.heap H) := fun b o e => hidT_get (KX b o e) (by
    cases q : H b with
    | none => rfl
    | some u =>
      rcases inv b u q with ⟨h1, _⟩ | ⟨h1, h2, _⟩
      · obtain ⟨p, hp, ep⟩ := List.mem_map.mp h1
        rw [← ep, nT p hp] at e
        cases e
      · rw [h1, h2] at e
        cases e)
  have hM : L2.Mod K mg (hidT s₁.heap H) := ⟨hKb, nsK hns, ⟨mb, nsK hb, hbb⟩, let ⟨mc, h1, h2⟩ := hlim; ⟨mc, nsK h1, h2⟩⟩
  have TB : ∀ p ∈ cs, LamX.TabB (hidT s₁.heap H) mg p.1 p.2 := fun p hp => by
    have hTp := hT p hp
    refine ⟨?_, ?_, fun z => ?_⟩
    · obtain ⟨o, us, file, tf, flags, tg, inF, text, tt, e1, r1, r2, r3, r4⟩ := C p hp
      refine ⟨o, us, file, tf, flags, tg, inF, text, tt, kept e1 (fun z => ?_) (fun _ _ z => ?_), r1, r2, r3, r4⟩
      · rw [r2] at z
        cases z
        simp at r3
      · rw [r2] at z
        cases z
    · obtain ⟨bm, ob, b1, b2, b3, b4, b5, b6⟩ := hbm
      have pl : ∀ {d : Data}, ob.data = d → d ≠ .plain → False := fun e n => n (e.symm.trans b6)
      refine ⟨bm, ob, b1, b2, fun q => ?_, fun q => ?_, kept b3 (by rw [b6]; exact fun z => by cases z) (by rw [b6]; exact fun _ _ z => by cases z), b4, b5, b6⟩
      · obtain ⟨o, es, ep, e, hd, _⟩ := hns
        rw [q, e] at b3
        cases b3
        rw [hd] at b6
        cases b6
      · rw [q, hTp] at b3
        cases b3
        cases b6
    · obtain ⟨o, es, ep, e, hd, _⟩ := hns
      rw [z, hTp] at e
      cases e
      cases hd
  have e0 : Env0 P w K mg (hidT s₁.heap H) callerA [] s₁ H := ⟨rfl, hM, fun b o e => of_hidT e, Nat.le_of_eq (hidT_size _ _), trivial, fun b hb => absurd (show b ∈ ([] : List Addr) from hb) (by simp), hok, .of_eq hg⟩
  -- the script, the tables over the frozen part
  let Fh : Hp := startF K cs a vs ns
  have FhT : ∀ b, b ∈ cs.map (·.2) → Fh b = none := fun b hb => if_pos hb
  have sub : Same Fh H := fun b u e => by
    have e : (if b ∈ cs.map (·.2) then none else startH K cs a vs ns b) = some u := e
    split at e
    · cases e
    · rw [← hH]
      exact e
  have hS : SqL K Fh a (ns.map V.int) := by
    cases q : K.lookup a with
    | some o =>
      have e := KX a o q
      rw [ha] at e
      cases e
      exact .inr ⟨_, vs.toArray, _, q, rfl, rfl, rfl, by rw [List.size_toArray, hi.length]; exact hl, by simpa using rv⟩
    | none =>
      refine .inl (.inr ⟨{ cls := .type "list", data := .seq vs.toArray }, ?_⟩)
      show (if a ∈ cs.map (·.2) then none else startH K cs a vs ns a) = _
      rw [if_neg aT, hH, atA, q]
  obtain ⟨st, f, fd, N, hm, Fd, S, hbi, hlen, body⟩ := (F _ hKb (nsK hns) TB).ex
  rw [hmg] at hm
  cases hm
  obtain ⟨oc, od, dV, kV, doc, pm, an, cdv, ct, osl, rfl, lk, hcd, _, _⟩ := Fd.ex
  have hbt := hbi s₁ [.ref a] KX (by rw [List.append_nil]; exact hps.symm)
  rw [List.append_nil] at hbt
  refine codeAny_mono (LamX.run_ofS (CX := C8.CX0) (Q := fun v _ => v = .bl true) (E := C8.E0) (us := [.ref a]) (vs := [.ref a]) lk hcd S hr e0 hbt (.cons rfl .nil) hps.symm fun hr' => ?_) fun r s' h => ?_
  · have tabs : TabsAt Fh H T := fun t ht => ⟨#[], FhT _ (hTcs t ht), atT _ (hTcs t ht), True.intro, fun pos cv hc => by
      have z : codeAmong pos [] = some cv := hc
      simp [codeAmong] at z⟩
    have hsp : spT0 K 1 T p [.ref a] H (fun v _ => v = .bl true) C8.E0 := ⟨rfl, Fh, [d0], fun d => d = .bool true, sub, .cons (hd0 Fh hS) .nil, tabs, hp, fun v F' H' d _ hd e => by
      subst e
      cases hd
      rfl⟩
    obtain ⟨t', ht', hq'⟩ := body callerA [] s₁ H [.ref a] (fun v _ => v = .bl true) guards_caller hr' hsp
    exact ⟨t', ht'.nox, hq'⟩
  · cases r with
    | error e => exact (show False from h).elim
    | ok fl =>
      cases fl with
      | next => exact False.elim h
      | brk => exact False.elim h
      | cont => exact False.elim h
      | ret u =>
        obtain ⟨v, H', os, bare, un, hok', r', q⟩ := h
        have q' : v = .bl true := q
        subst q'
        obtain rfl : u = Value.bool true := r'
        have none_ : ∀ {b : Addr}, b ∉ ([] : List Addr) := fun {b} z => by cases z
        have key : ∀ b o, b ∉ cs.map (·.2) → s₁.heap.get? b = some o → s'.heap.get? b = some o := fun b o nb e => by
          cases q : H b with
          | none => exact un.keep b o e q none_ none_
          | some u =>
            rcases inv b u q with ⟨z, _⟩ | ⟨rfl, _, rfl⟩
            · exact absurd z nb
            · obtain ⟨e2, _⟩ := hok' b _ (un.frzs b _ _ q)
              rw [ha] at e
              cases e
              exact e2
        have grown : ∀ b, b ∈ cs.map (·.2) → ∃ more : Array Value, s'.heap.get? b = some { cls := .none, data := .fields more } := fun b hb => by
          obtain ⟨more, z⟩ := un.tbls b #[] (atT b hb)
          exact ⟨_, hok' b _ z⟩
        refine ⟨rfl, ⟨fun b o e => ?_, fun b o e => ?_⟩, os, bare⟩
        · by_cases hb : b ∈ cs.map (·.2)
          · obtain ⟨more, hm2⟩ := grown b hb
            obtain ⟨p, hp, rfl⟩ := List.mem_map.mp hb
            rw [hT p hp] at e
            cases e
            exact .inr (.inl ⟨((C p hp).tab (hT p hp)).isCodeTable, rfl, #[], more, rfl, by rw [Array.empty_append]; exact hm2⟩)
          · exact .inl (key b o hb e)
        · by_cases hb : b ∈ cs.map (·.2)
          · obtain ⟨more, hm2⟩ := grown b hb
            exact ⟨_, hm2⟩
          · exact ⟨o, key b o hb e⟩
theorem walk_ofG {l : PySem.W.OpenLaw} {n k : Nat} {q : Program} {loose : List Str} {XP : (Str → Option Value) → Heap → Prop} {YP : World → Heap → Prop} {d : DefRec} {x : Str} {ps : List Str}
    (hn : l.most = some n) (hn2 : n ≤ sizeLine) (hdf : d.params.defaults = []) (hr : Room (k + 1) callerA) (hps : ps.length = 1) (hx : d.name = x)
    (F : ∀ (w : World) (mg : Str → Option Value) (fa : Addr) (h : Heap), YP w h → h.Ns mainGlobals mg → mg x = some (.ref fa) →
      ∃ (K : PySem.W.Frag) (cs : List (Addr × Addr)) (T : List (Addr × Str)) (p : PD), K.In h ∧ (∀ p ∈ cs, h.get? p.2 = some { cls := .none, data := .fields #[] }) ∧ (∀ p ∈ cs, K.lookup p.2 = none) ∧ (∀ p ∈ cs, PySem.W.CodeHd h p.1 p.2) ∧ (∀ t ∈ T, t.1 ∈ cs.map (·.2)) ∧
        (∀ ns : List Int, ns.length ≤ n → p [.dict (ns.map fun n => (.int n, .none))] fun d => d = .bool true) ∧ ∀ base : Heap, K.In base → base.Ns mainGlobals mg → (∀ p ∈ cs, LamX.TabB base mg p.1 p.2) → HasG l.prog w K mg base x k ps (spT0 K 1 T p)) :
    PySem.W.WalkO q loose XP YP l.row.toRowW d [] (fun f vs => PySem.call f vs) := by
  refine Att.attach_callB hn hdf fun w s₀ s₁ mg mb fa o pm cd doc a vs ns G Y ho hd hcd hmg hobj hints hlen hbits hg => ?_
  rw [hx] at hmg
  obtain ⟨K, cs, T, p, KX, hT, nT, C, hTcs, hp, hF⟩ := F w mg fa _ Y G.T.g hmg
  exact law_endG (d0 := .dict (ns.map fun n => (.int n, .none))) KX G.T.g G.T.b G.T.builtins G.T.nolimit hg hT nT C G.T.bmain hobj hints (Nat.le_trans hlen hn2) hr hmg hps hF hTcs (fun _ h => .scr h) (hp ns hlen)
end
end AF

set_option Elab.async false
set_option linter.all false
set_option maxRecDepth 100000
set_option maxHeartbeats 4000000
/-! AF31: small things for the printed walk of a law with function values. -/
namespace AF
open PySem PySem.Spec PyProof.Rows L2
section
variable {P : Program} {w : World} {K : PySem.W.Frag} {mg : Str → Option Value} {base : Heap}
theorem HasX.mono {x : Str} {j k : Nat} {ps : List Str} {sp : Sp} (h : HasX P w K mg base x j ps sp) (hk : j ≤ k) : HasX P w K mg base x k ps sp := by
  obtain ⟨f, fd, h1, h2, h3, h4⟩ := h.ex
  exact ⟨f, fd, h1, h2, h3, h4.mono hk⟩
theorem cellsB0 {sc : Scope} {N ps : List Str} : CellsB base [] sc N ps [] := ⟨fun y c e => (by cases e), fun j y v _ e => (by cases e)⟩
theorem cellsB1 {sc : Scope} {ps : List Str} {num : Str} {c : Addr} {v0 : V} (h : ∃ u, base.IsCell c (some u) ∧ RelV v0 u) (hf : sc.names.lookup num = some .free) : CellsB base [(num, c)] sc (ps ++ [num]) ps [v0] := by
  obtain ⟨u, hc, r⟩ := h
  refine ⟨fun y c' e => ?_, fun j y v e1 e2 => ?_⟩
  · have e : (match y == num with | true => some c | false => none) = some c' := e
    cases q : (y == num) with
    | true =>
      rw [q] at e
      cases e
      exact ⟨_, hc⟩
    | false =>
      rw [q] at e
      cases e
  · cases j with
    | zero =>
      cases e2
      rw [Nat.add_zero, List.getElem?_append_right (Nat.le_refl _), Nat.sub_self] at e1
      cases e1
      exact ⟨hf, c, u, by simp [List.lookup], hc, r⟩
    | succ j => cases e2
def lamPB (N ps : List Str) (sc : Scope) (caps : List Str) : Bool :=
  decide (sc.kind = .function) && !sc.isCoroutine && !sc.isGenerator && decide N.Nodup && decide (N.take ps.length = ps) && ps.all (fun p => decide (sc.names.lookup p = some .local)) && sc.names.all (fun y => !decide (y.2 = .cell) && (!decide (y.2 = .free) || decide (y.1 ∈ caps)))
theorem lamP_by {N ps caps : List Str} {sc : Scope} {cl : List (Str × Addr)} (hcl : cl.map (·.1) = caps) (nd : caps.Nodup) (ni : ∀ x y c, cl.lookup x = some c → cl.lookup y = some c → x = y) (h : lamPB N ps sc caps = true) : LamP N ps sc cl := by
  unfold lamPB at h
  simp only [Bool.and_eq_true, Bool.or_eq_true, Bool.not_eq_true', decide_eq_true_eq, decide_eq_false_iff_not, List.all_eq_true] at h
  obtain ⟨⟨⟨⟨⟨⟨h1, h2⟩, h3⟩, h4⟩, h5⟩, h6⟩, h7⟩ := h
  refine ⟨h1, h2, h3, h4, h5, h6, fun y hy => (h7 y hy).1, fun y e => ?_, ni⟩
  have hm := PySem.mem_of_lookup e
  rcases (h7 _ hm).2 with z | z
  · exact absurd rfl z
  · rw [← hcl] at z
    obtain ⟨p, hp, e2⟩ := List.mem_map.mp z
    have e2 : p.1 = y := e2
    have hp2 : (y, p.2) ∈ cl := by rw [← e2]; exact hp
    exact mem_lookup hp2
theorem lamP0 {N ps : List Str} {sc : Scope} (h : lamPB N ps sc [] = true) : LamP N ps sc [] := lamP_by rfl .nil (fun x y c e => (by cases e)) h
theorem lamP1 {N ps : List Str} {sc : Scope} {num : Str} {c : Addr} (h : lamPB N ps sc [num] = true) : LamP N ps sc [(num, c)] := by
  have key : ∀ z d, List.lookup z [(num, c)] = some d → z = num := fun z d e => by
    have e : (match z == num with | true => some c | false => none) = some d := e
    cases q : (z == num) with
    | true => exact beq_iff_eq.mp q
    | false => rw [q] at e; cases e
  exact lamP_by rfl (List.nodup_cons.mpr ⟨by simp, .nil⟩) (fun x y d e1 e2 => (key x d e1).trans (key y d e2).symm) h
end
/-- parts of a text -/
def lamOf (q : Str) : Expr → LamT
  | .Lambda ps b sc _ => ⟨q, ps, b, sc⟩
  | _ => ⟨q, default, .Constant .none 0 ⟨0, 0, 0, 0⟩, default⟩
def asgVal : Stmt → Expr
  | .Assign _ e _ => e
  | .Expr e _ => e
  | _ => .Constant .none 0 ⟨0, 0, 0, 0⟩
def listEl (i : Nat) : Expr → Expr
  | .List es _ => es.getD i (.Constant .none 0 ⟨0, 0, 0, 0⟩)
  | .Call _ es _ _ => es.getD i (.Constant .none 0 ⟨0, 0, 0, 0⟩)
  | _ => .Constant .none 0 ⟨0, 0, 0, 0⟩
end AF

set_option Elab.async false
set_option linter.all false
set_option maxRecDepth 100000
set_option maxHeartbeats 4000000
namespace AF
open PySem PySem.Spec PyProof.Rows L2
theorem hu20_of {n : Nat} (h : n + 64 < cLine) : n + 20 < cLine := Nat.lt_of_le_of_lt (Nat.add_le_add_left (by decide : 20 ≤ 64) _) h
def top (i : Nat) : Stmt := PySem.Challenge.pw_wholemoment_k75_errors_of_counts.main.body.getD i (.Pass ⟨0, 0, 0, 0⟩)
structure Tx (P : Program) (K : PySem.W.Frag) (mg : Str → Option Value) : Prop where
  b_isinstance : mg "isinstance" = none
  b_int : mg "int" = none
  b_bool : mg "bool" = none
  b_str : mg "str" = none
  b_tuple : mg "tuple" = none
  b_list : mg "list" = none
  b_len : mg "len" = none
  b_all : mg "all" = none
  b_any : mg "any" = none
  b_zip : mg "zip" = none
  b_sorted : mg "sorted" = none
  b_range : mg "range" = none
  b_max : mg "max" = none
  b_min : mg "min" = none
  b_abs : mg "abs" = none
  b_repr : mg "repr" = none
  b_super : mg "super" = none
  c_GREATEST : ∃ t, mg "GREATEST" = some (.int 1000000000000000000000000000000000000000000000000000000000000 t)
  c_MOST_KEY : ∃ t, mg "MOST_KEY" = some (.int 8 t)
  c_LETTERS : ∃ t, mg "LETTERS" = some (.str "abcdefghijklmnopqrstuvwxyz" t)
  c_MAX_SPREAD : ∃ t, mg "MAX_SPREAD" = some (.int 6 t)
  c_MAX_DEPTH : ∃ t, mg "MAX_DEPTH" = some (.int 6 t)
  c_MAX_READS : ∃ t, mg "MAX_READS" = some (.int 60 t)
  c_MAX_HELD : ∃ t, mg "MAX_HELD" = some (.int 200 t)
  c_MAX_TERM : ∃ t, mg "MAX_TERM" = some (.int 200 t)
  c_MAX_ASKED : ∃ t, mg "MAX_ASKED" = some (.int 400 t)
  c_MAX_KEYS : ∃ t, mg "MAX_KEYS" = some (.int 6 t)
  c_MAX_ENDS : ∃ t, mg "MAX_ENDS" = some (.int 240 t)
  c_PAIR : ∃ t, mg "PAIR" = some (.int 2 t)
  c_ASKS : ∃ t, mg "ASKS" = some (.str "asks" t)
  c_MARKS : ∃ t, mg "MARKS" = some (.str "marks" t)
  d_is_whole : DefAt K mg "is_whole" (top 6)
  d_is_short : DefAt K mg "is_short" (top 7)
  d_is_from : DefAt K mg "is_from" (top 8)
  d_is_tick : DefAt K mg "is_tick" (top 9)
  d_is_key : DefAt K mg "is_key" (top 15)
  d_are_keys : DefAt K mg "are_keys" (top 31)
  d_is_read : DefAt K mg "is_read" (top 32)
  d_are_reads : DefAt K mg "are_reads" (top 33)
  d_is_mark : DefAt K mg "is_mark" (top 34)
  d_are_marks_of : DefAt K mg "are_marks_of" (top 35)
  d_asks_in : DefAt K mg "asks_in" (top 37)
  d_do_cover_in : DefAt K mg "do_cover_in" (top 38)
  d_are_apart_in : DefAt K mg "are_apart_in" (top 39)
  d_marks_in : DefAt K mg "marks_in" (top 36)
  d_require_from : DefAt K mg "require_from" (top 10)
  d_require_tick : DefAt K mg "require_tick" (top 11)
  d_require_spread : DefAt K mg "require_spread" (top 20)
  d_require_reads : DefAt K mg "require_reads" (top 40)
  d_require_number : DefAt K mg "require_number" (top 41)
  d_held_at : DefAt K mg "held_at" (top 42)
  d_greatest_depth : DefAt K mg "greatest_depth" (top 43)
  d_least_term : DefAt K mg "least_term" (top 44)
  d_asks_of : DefAt K mg "asks_of" (top 45)
  d_fewest_asks : DefAt K mg "fewest_asks" (top 46)
  d_do_cover : DefAt K mg "do_cover" (top 47)
  d_are_apart : DefAt K mg "are_apart" (top 48)
  d_asks_or_marks : DefAt K mg "asks_or_marks" (top 49)
  d_is_asks_or_marks : DefAt K mg "is_asks_or_marks" (top 50)
  d_put_at : DefAtD K mg "put_at" (top 51) [.non]
  d__law_dice : DefAt K mg "_law_dice" (top 53)
  d__law_roll : DefAt K mg "_law_roll" (top 54)
  d__law_pick : DefAt K mg "_law_pick" (top 55)
  d__law_odd : DefAt K mg "_law_odd" (top 57)
  d__law_met : DefAt K mg "_law_met" (top 56)
  d__law_numbers_right : DefAt K mg "_law_numbers_right" (top 58)
  d__law_reads_right : DefAt K mg "_law_reads_right" (top 59)
  d__law_ends_right : DefAt K mg "_law_ends_right" (top 60)
  d_law : DefAt K mg "law" (top 61)
  x_InvalidNumber : SupN P K mg "InvalidNumber" "given"
  x_InvalidOperation : SupM K mg "InvalidOperation"
  met : ∃ CN CO : Addr, mg "InvalidNumber" = some (.ref CN) ∧ mg "InvalidOperation" = some (.ref CO) ∧ XfC K CN ∧ PySem.W.findIn K (.ref CN) "given" = some none ∧ PySem.W.exmOne K (.ref CN) (.ref CN) = some true ∧ PySem.W.exmOne K (.ref CO) (.ref CN) = some false ∧ PySem.W.exmOne K (.ref CO) (.ref CO) = some true
section
variable {P : Program} {w : World} {K : PySem.W.Frag} {mg : Str → Option Value} {base : Heap}
/-! ### is_whole -/
abbrev s_is_whole : Stmt := top 6
abbrev N_is_whole : List Str := ["value"]
theorem sc_is_whole : FnScope N_is_whole ["value"] (defScope s_is_whole) := ⟨rfl, rfl, rfl, by decide +kernel, rfl, by decide +kernel, by decide +kernel⟩
def W_is_whole : WS := (wRet (wAnd (wIs isInt (wVar 0)) (wNot (wIs isBool (wVar 0)))))
def P_is_whole : PD := fun ds R => ds.length = 1 ∧ W_is_whole (endD R) (startE 1 ds)
theorem has_is_whole (T : Tx P K mg)  : Has P w K mg base "is_whole" 1 ["value"] (spD K 1 P_is_whole) := by
  refine has_d (T.d_is_whole) sc_is_whole rfl (fun F => F.bindsN fun _ _ _ _ _ _ us hl => match us, hl with | [_], _ => rfl) (fun f fd F cdv A outer s H E hr => ?_)
  have hu := hu_of hr
  have hu64 := hr.units
  have hu0 := hr.units0
  have hu20 := hu20_of hr.units
  exact ⟨W_is_whole, (puss_one (pus_ret (pu_and (pu_is isk_int rfl T.b_isinstance bb_isinstance rfl T.b_int bb_int (pu_v 0)) (pu_one (pu_not (pu_is isk_bool rfl T.b_isinstance bb_isinstance rfl T.b_bool bb_bool (pu_v 0))))))), fun ds R hl h => h.2⟩
/-! ### is_short -/
abbrev s_is_short : Stmt := top 7
abbrev N_is_short : List Str := ["value"]
theorem sc_is_short : FnScope N_is_short ["value"] (defScope s_is_short) := ⟨rfl, rfl, rfl, by decide +kernel, rfl, by decide +kernel, by decide +kernel⟩
def W_is_short : WS := (wRet (wAnd (wFun P_is_whole (wCons (wVar 0) wNil)) (wCh (fB fun i j => decide (i < j)) (fB fun i j => decide (i < j)) (wNeg (wC (.int 1000000000000000000000000000000000000000000000000000000000000))) (wVar 0) (wC (.int 1000000000000000000000000000000000000000000000000000000000000)))))
def P_is_short : PD := fun ds R => ds.length = 1 ∧ W_is_short (endD R) (startE 1 ds)
theorem has_is_short (T : Tx P K mg) (H_is_whole : Has P w K mg base "is_whole" 1 ["value"] (spD K 1 P_is_whole)) : Has P w K mg base "is_short" 2 ["value"] (spD K 1 P_is_short) := by
  refine has_d (T.d_is_short) sc_is_short rfl (fun F => F.bindsN fun _ _ _ _ _ _ us hl => match us, hl with | [_], _ => rfl) (fun f fd F cdv A outer s H E hr => ?_)
  have hu := hu_of hr
  have hu64 := hr.units
  have hu0 := hr.units0
  have hu20 := hu20_of hr.units
  exact ⟨W_is_short, (puss_one (pus_ret (pu_and (pu_funH H_is_whole (hr.mono (by decide)) (pua_cons (pu_v 0) pua_nil)) (pu_one (pu_chain op_lt op_lt sr_b sr_b (pu_neg (pu_gi rfl T.c_GREATEST)) (pu_v 0) (pu_gi rfl T.c_GREATEST)))))), fun ds R hl h => h.2⟩
/-! ### is_from -/
abbrev s_is_from : Stmt := top 8
abbrev N_is_from : List Str := ["value", "least", "most"]
theorem sc_is_from : FnScope N_is_from ["value", "least", "most"] (defScope s_is_from) := ⟨rfl, rfl, rfl, by decide +kernel, rfl, by decide +kernel, by decide +kernel⟩
def W_is_from : WS := (wRet (wAnd (wFun P_is_whole (wCons (wVar 0) wNil)) (wCh (fB fun i j => decide (i ≤ j)) (fB fun i j => decide (i ≤ j)) (wVar 1) (wVar 0) (wVar 2))))
def P_is_from : PD := fun ds R => ds.length = 3 ∧ W_is_from (endD R) (startE 3 ds)
theorem has_is_from (T : Tx P K mg) (H_is_whole : Has P w K mg base "is_whole" 1 ["value"] (spD K 1 P_is_whole)) : Has P w K mg base "is_from" 2 ["value", "least", "most"] (spD K 3 P_is_from) := by
  refine has_d (T.d_is_from) sc_is_from rfl (fun F => F.bindsN fun _ _ _ _ _ _ us hl => match us, hl with | [_, _, _], _ => rfl) (fun f fd F cdv A outer s H E hr => ?_)
  have hu := hu_of hr
  have hu64 := hr.units
  have hu0 := hr.units0
  have hu20 := hu20_of hr.units
  exact ⟨W_is_from, (puss_one (pus_ret (pu_and (pu_funH H_is_whole (hr.mono (by decide)) (pua_cons (pu_v 0) pua_nil)) (pu_one (pu_chain op_le op_le sr_b sr_b (pu_v 1) (pu_v 0) (pu_v 2)))))), fun ds R hl h => h.2⟩
/-! ### is_tick -/
abbrev s_is_tick : Stmt := top 9
abbrev N_is_tick : List Str := ["value"]
theorem sc_is_tick : FnScope N_is_tick ["value"] (defScope s_is_tick) := ⟨rfl, rfl, rfl, by decide +kernel, rfl, by decide +kernel, by decide +kernel⟩
def W_is_tick : WS := (wRet (wAnd (wFun P_is_short (wCons (wVar 0) wNil)) (wBin (fB fun i j => decide (j ≤ i)) (wVar 0) (wC (.int 0)))))
def P_is_tick : PD := fun ds R => ds.length = 1 ∧ W_is_tick (endD R) (startE 1 ds)
theorem has_is_tick (T : Tx P K mg) (H_is_short : Has P w K mg base "is_short" 2 ["value"] (spD K 1 P_is_short)) : Has P w K mg base "is_tick" 3 ["value"] (spD K 1 P_is_tick) := by
  refine has_d (T.d_is_tick) sc_is_tick rfl (fun F => F.bindsN fun _ _ _ _ _ _ us hl => match us, hl with | [_], _ => rfl) (fun f fd F cdv A outer s H E hr => ?_)
  have hu := hu_of hr
  have hu64 := hr.units
  have hu0 := hr.units0
  have hu20 := hu20_of hr.units
  exact ⟨W_is_tick, (puss_one (pus_ret (pu_and (pu_funH H_is_short (hr.mono (by decide)) (pua_cons (pu_v 0) pua_nil)) (pu_one (pu_cmp op_ge sr_b (pu_v 0) pu_int))))), fun ds R hl h => h.2⟩
/-! ### is_key -/
abbrev s_is_key : Stmt := top 15
abbrev N_is_key : List Str := ["value", "sign"]
theorem sc_is_key : FnScope N_is_key ["value"] (defScope s_is_key) := ⟨rfl, rfl, rfl, by decide +kernel, rfl, by decide +kernel, by decide +kernel⟩
def W_is_key : WS := (wRet (wAnd (wIs isStr (wVar 0)) (wAnd (wCh (fB fun i j => decide (i ≤ j)) (fB fun i j => decide (i ≤ j)) (wC (.int 1)) (wCall fLen (wCons (wVar 0) wNil)) (wC (.int 8))) (wCall (fAll fun bs => bs.all id) (wCons (wLc (wiStr (wVar 0)) (wgName 1) wYes (wBin fInSign (wVar 1) (wC (.str "abcdefghijklmnopqrstuvwxyz"))) [1]) wNil)))))
def P_is_key : PD := fun ds R => ds.length = 1 ∧ W_is_key (endD R) (startE 2 ds)
theorem has_is_key (T : Tx P K mg)  : Has P w K mg base "is_key" 1 ["value"] (spD K 1 P_is_key) := by
  refine has_d (T.d_is_key) sc_is_key rfl (fun F => F.bindsN fun _ _ _ _ _ _ us hl => match us, hl with | [_], _ => rfl) (fun f fd F cdv A outer s H E hr => ?_)
  have hu := hu_of hr
  have hu64 := hr.units
  have hu0 := hr.units0
  have hu20 := hu20_of hr.units
  exact ⟨W_is_key, (puss_one (pus_ret (pu_and (pu_is isk_str rfl T.b_isinstance bb_isinstance rfl T.b_str bb_str (pu_v 0)) (pu_and (pu_chain op_le op_le sr_b sr_b pu_int (pu_blt (call_len) sc_len rfl T.b_len bb_len (pua_cons (pu_v 0) pua_nil)) (pu_gi rfl T.c_MOST_KEY)) (pu_one (pu_blt (cr_all rfl) sc_all rfl T.b_all bb_all (pua_cons (pu_lc (own := [("sign", 1)]) sc_is_key.nd (blkOk_by (N := N_is_key) (sc := defScope s_is_key) (by decide +kernel)) (pui_str (pu_v 0)) (fun _ _ _ _ _ => (pug_name 1 sc_is_key.nd)) (fun _ _ _ _ _ => puts_nil) (fun _ _ _ _ _ => (pu_cmp op_in_sign sr_in_sign (pu_v 1) (pu_gs rfl T.c_LETTERS)))) pua_nil))))))), fun ds R hl h => h.2⟩
/-! ### are_keys -/
abbrev s_are_keys : Stmt := top 31
abbrev N_are_keys : List Str := ["value", "one", "other", "key"]
theorem sc_are_keys : FnScope N_are_keys ["value"] (defScope s_are_keys) := ⟨rfl, rfl, rfl, by decide +kernel, rfl, by decide +kernel, by decide +kernel⟩
def W_are_keys : WS := (wSeq (wIfS (wOrT (wNotT (wB (wIs isTuple (wVar 0)))) (wOrT (wNotT (wB (wCh (fB fun i j => decide (i ≤ j)) (fB fun i j => decide (i ≤ j)) (wC (.int 1)) (wCall fLen (wCons (wVar 0) wNil)) (wC (.int 6))))) (wNotT (wB (wCall (fAll fun bs => bs.all id) (wCons (wLc (wiTup (wVar 0)) (wgName 3) wYes (wFun P_is_key (wCons (wVar 3) wNil)) [3]) wNil)))))) (wRet (wC (.bool false))) wNx) (wRet (wCall (fAll fun bs => bs.all id) (wCons (wLc (wiZipT (wCons (wVar 0) (wCons (wSlT (wVar 0) (wPart (wC (.int 1))) wNoPart) wNil))) (wgTup 2 (wgCons (wgName 1) (wgCons (wgName 2) wgNil))) wYes (wBin (fLtS fun i j => decide (i.cps.toList < j.cps.toList)) (wVar 1) (wVar 2)) [1, 2]) wNil))))
def P_are_keys : PD := fun ds R => ds.length = 1 ∧ W_are_keys (endD R) (startE 4 ds)
theorem has_are_keys (T : Tx P K mg) (H_is_key : Has P w K mg base "is_key" 1 ["value"] (spD K 1 P_is_key)) : Has P w K mg base "are_keys" 2 ["value"] (spD K 1 P_are_keys) := by
  refine has_d (T.d_are_keys) sc_are_keys rfl (fun F => F.bindsN fun _ _ _ _ _ _ us hl => match us, hl with | [_], _ => rfl) (fun f fd F cdv A outer s H E hr => ?_)
  have hu := hu_of hr
  have hu64 := hr.units
  have hu0 := hr.units0
  have hu20 := hu20_of hr.units
  exact ⟨W_are_keys, (puss_cons (pus_if (put_w (puw_or (put_not (put_val (pu_is isk_tuple rfl T.b_isinstance bb_isinstance rfl T.b_tuple bb_tuple (pu_v 0)))) (puw_or (put_not (put_chain op_le op_le sr_b sr_b pu_int (pu_blt (call_len) sc_len rfl T.b_len bb_len (pua_cons (pu_v 0) pua_nil)) (pu_gi rfl T.c_MAX_KEYS))) (puw_or1 (put_not (put_val (pu_blt (cr_all rfl) sc_all rfl T.b_all bb_all (pua_cons (pu_lc (own := [("key", 3)]) sc_are_keys.nd (blkOk_by (N := N_are_keys) (sc := defScope s_are_keys) (by decide +kernel)) (pui_tup (pu_v 0)) (fun _ _ _ _ _ => (pug_name 3 sc_are_keys.nd)) (fun _ _ _ _ _ => puts_nil) (fun _ _ _ _ _ => (pu_funH H_is_key (hr.mono (by decide)) (pua_cons (pu_v 3) pua_nil)))) pua_nil)))))))) (puss_one (pus_ret pu_bl)) puss_nil) (puss_one (pus_ret (pu_blt (cr_all rfl) sc_all rfl T.b_all bb_all (pua_cons (pu_lc (own := [("one", 1), ("other", 2)]) sc_are_keys.nd (blkOk_by (N := N_are_keys) (sc := defScope s_are_keys) (by decide +kernel)) (pui_zipT (pua_cons (pu_v 0) (pua_cons (pu_slT (pu_v 0) (puo_some pu_int) puo_none) pua_nil)) T.b_zip) (fun _ _ _ _ _ => (pug_tup (pugs_cons (pug_name 1 sc_are_keys.nd) (pugs_cons (pug_name 2 sc_are_keys.nd) pugs_nil)))) (fun _ _ _ _ _ => puts_nil) (fun _ _ _ _ _ => (pu_cmp op_lt_str sr_ltS (pu_v 1) (pu_v 2)))) pua_nil))))), fun ds R hl h => h.2⟩
/-! ### is_read -/
abbrev s_is_read : Stmt := top 32
abbrev N_is_read : List Str := ["value"]
theorem sc_is_read : FnScope N_is_read ["value"] (defScope s_is_read) := ⟨rfl, rfl, rfl, by decide +kernel, rfl, by decide +kernel, by decide +kernel⟩
def W_is_read : WS := (wRet (wAnd (wIs isTuple (wVar 0)) (wAnd (wBin fEqS (wCall fLen (wCons (wVar 0) wNil)) (wC (.int 2))) (wAnd (wFun P_is_tick (wCons (wBin fIx (wVar 0) (wC (.int 0))) wNil)) (wFun P_are_keys (wCons (wBin fIx (wVar 0) (wC (.int 1))) wNil))))))
def P_is_read : PD := fun ds R => ds.length = 1 ∧ W_is_read (endD R) (startE 1 ds)
theorem has_is_read (T : Tx P K mg) (H_are_keys : Has P w K mg base "are_keys" 2 ["value"] (spD K 1 P_are_keys)) (H_is_tick : Has P w K mg base "is_tick" 3 ["value"] (spD K 1 P_is_tick)) : Has P w K mg base "is_read" 4 ["value"] (spD K 1 P_is_read) := by
  refine has_d (T.d_is_read) sc_is_read rfl (fun F => F.bindsN fun _ _ _ _ _ _ us hl => match us, hl with | [_], _ => rfl) (fun f fd F cdv A outer s H E hr => ?_)
  have hu := hu_of hr
  have hu64 := hr.units
  have hu0 := hr.units0
  have hu20 := hu20_of hr.units
  exact ⟨W_is_read, (puss_one (pus_ret (pu_and (pu_is isk_tuple rfl T.b_isinstance bb_isinstance rfl T.b_tuple bb_tuple (pu_v 0)) (pu_and (pu_cmp op_eq sr_eq (pu_blt (call_len) sc_len rfl T.b_len bb_len (pua_cons (pu_v 0) pua_nil)) (pu_gi rfl T.c_PAIR)) (pu_and (pu_funH H_is_tick (hr.mono (by decide)) (pua_cons (pu_ix (pu_v 0) pu_int) pua_nil)) (pu_one (pu_funH H_are_keys (hr.mono (by decide)) (pua_cons (pu_ix (pu_v 0) pu_int) pua_nil)))))))), fun ds R hl h => h.2⟩
/-! ### are_reads -/
abbrev s_are_reads : Stmt := top 33
abbrev N_are_reads : List Str := ["value", "one", "other", "read"]
theorem sc_are_reads : FnScope N_are_reads ["value"] (defScope s_are_reads) := ⟨rfl, rfl, rfl, by decide +kernel, rfl, by decide +kernel, by decide +kernel⟩
def W_are_reads : WS := (wSeq (wIfS (wOrT (wNotT (wB (wIs isTuple (wVar 0)))) (wOrT (wB (wBin (fB fun i j => decide (j < i)) (wCall fLen (wCons (wVar 0) wNil)) (wC (.int 60)))) (wNotT (wB (wCall (fAll fun bs => bs.all id) (wCons (wLc (wiTup (wVar 0)) (wgName 3) wYes (wFun P_is_read (wCons (wVar 3) wNil)) [3]) wNil)))))) (wRet (wC (.bool false))) wNx) (wRet (wCall (fAll fun bs => bs.all id) (wCons (wLc (wiZipT (wCons (wVar 0) (wCons (wSlT (wVar 0) (wPart (wC (.int 1))) wNoPart) wNil))) (wgTup 2 (wgCons (wgName 1) (wgCons (wgName 2) wgNil))) wYes (wBin (fB fun i j => decide (i ≤ j)) (wBin fIx (wVar 1) (wC (.int 0))) (wBin fIx (wVar 2) (wC (.int 0)))) [1, 2]) wNil))))
def P_are_reads : PD := fun ds R => ds.length = 1 ∧ W_are_reads (endD R) (startE 4 ds)
theorem has_are_reads (T : Tx P K mg) (H_is_read : Has P w K mg base "is_read" 4 ["value"] (spD K 1 P_is_read)) : Has P w K mg base "are_reads" 5 ["value"] (spD K 1 P_are_reads) := by
  refine has_d (T.d_are_reads) sc_are_reads rfl (fun F => F.bindsN fun _ _ _ _ _ _ us hl => match us, hl with | [_], _ => rfl) (fun f fd F cdv A outer s H E hr => ?_)
  have hu := hu_of hr
  have hu64 := hr.units
  have hu0 := hr.units0
  have hu20 := hu20_of hr.units
  exact ⟨W_are_reads, (puss_cons (pus_if (put_w (puw_or (put_not (put_val (pu_is isk_tuple rfl T.b_isinstance bb_isinstance rfl T.b_tuple bb_tuple (pu_v 0)))) (puw_or (put_cmp op_gt sr_b (pu_blt (call_len) sc_len rfl T.b_len bb_len (pua_cons (pu_v 0) pua_nil)) (pu_gi rfl T.c_MAX_READS)) (puw_or1 (put_not (put_val (pu_blt (cr_all rfl) sc_all rfl T.b_all bb_all (pua_cons (pu_lc (own := [("read", 3)]) sc_are_reads.nd (blkOk_by (N := N_are_reads) (sc := defScope s_are_reads) (by decide +kernel)) (pui_tup (pu_v 0)) (fun _ _ _ _ _ => (pug_name 3 sc_are_reads.nd)) (fun _ _ _ _ _ => puts_nil) (fun _ _ _ _ _ => (pu_funH H_is_read (hr.mono (by decide)) (pua_cons (pu_v 3) pua_nil)))) pua_nil)))))))) (puss_one (pus_ret pu_bl)) puss_nil) (puss_one (pus_ret (pu_blt (cr_all rfl) sc_all rfl T.b_all bb_all (pua_cons (pu_lc (own := [("one", 1), ("other", 2)]) sc_are_reads.nd (blkOk_by (N := N_are_reads) (sc := defScope s_are_reads) (by decide +kernel)) (pui_zipT (pua_cons (pu_v 0) (pua_cons (pu_slT (pu_v 0) (puo_some pu_int) puo_none) pua_nil)) T.b_zip) (fun _ _ _ _ _ => (pug_tup (pugs_cons (pug_name 1 sc_are_reads.nd) (pugs_cons (pug_name 2 sc_are_reads.nd) pugs_nil)))) (fun _ _ _ _ _ => puts_nil) (fun _ _ _ _ _ => (pu_cmp op_le sr_b (pu_ix (pu_v 1) pu_int) (pu_ix (pu_v 2) pu_int)))) pua_nil))))), fun ds R hl h => h.2⟩
/-! ### is_mark -/
abbrev s_is_mark : Stmt := top 34
abbrev N_is_mark : List Str := ["value"]
theorem sc_is_mark : FnScope N_is_mark ["value"] (defScope s_is_mark) := ⟨rfl, rfl, rfl, by decide +kernel, rfl, by decide +kernel, by decide +kernel⟩
def W_is_mark : WS := (wRet (wAnd (wIs isTuple (wVar 0)) (wAnd (wBin fEqS (wCall fLen (wCons (wVar 0) wNil)) (wC (.int 2))) (wAnd (wFun P_is_tick (wCons (wBin fIx (wVar 0) (wC (.int 0))) wNil)) (wFun P_is_key (wCons (wBin fIx (wVar 0) (wC (.int 1))) wNil))))))
def P_is_mark : PD := fun ds R => ds.length = 1 ∧ W_is_mark (endD R) (startE 1 ds)
theorem has_is_mark (T : Tx P K mg) (H_is_key : Has P w K mg base "is_key" 1 ["value"] (spD K 1 P_is_key)) (H_is_tick : Has P w K mg base "is_tick" 3 ["value"] (spD K 1 P_is_tick)) : Has P w K mg base "is_mark" 4 ["value"] (spD K 1 P_is_mark) := by
  refine has_d (T.d_is_mark) sc_is_mark rfl (fun F => F.bindsN fun _ _ _ _ _ _ us hl => match us, hl with | [_], _ => rfl) (fun f fd F cdv A outer s H E hr => ?_)
  have hu := hu_of hr
  have hu64 := hr.units
  have hu0 := hr.units0
  have hu20 := hu20_of hr.units
  exact ⟨W_is_mark, (puss_one (pus_ret (pu_and (pu_is isk_tuple rfl T.b_isinstance bb_isinstance rfl T.b_tuple bb_tuple (pu_v 0)) (pu_and (pu_cmp op_eq sr_eq (pu_blt (call_len) sc_len rfl T.b_len bb_len (pua_cons (pu_v 0) pua_nil)) (pu_gi rfl T.c_PAIR)) (pu_and (pu_funH H_is_tick (hr.mono (by decide)) (pua_cons (pu_ix (pu_v 0) pu_int) pua_nil)) (pu_one (pu_funH H_is_key (hr.mono (by decide)) (pua_cons (pu_ix (pu_v 0) pu_int) pua_nil)))))))), fun ds R hl h => h.2⟩
/-! ### marks_in -/
abbrev s_marks_in : Stmt := top 36
abbrev N_marks_in : List Str := ["reads", "reading", "keys", "key"]
theorem sc_marks_in : FnScope N_marks_in ["reads"] (defScope s_marks_in) := ⟨rfl, rfl, rfl, by decide +kernel, rfl, by decide +kernel, by decide +kernel⟩
theorem has_marks_in (T : Tx P K mg) : Has P w K mg base "marks_in" 1 ["reads"] (spT K 1 P_marks_in) := by
  refine AF.has_marks (T.d_marks_in) sc_marks_in (fun F => F.bindsN fun _ _ _ _ _ _ us hl => match us, hl with | [_], _ => rfl) (fun f fd F cdv A outer s H E hr => ?_)
  exact pss_one (ps_ret (pe_dc2 (own := [("reading", 1), ("keys", 2), ("key", 3)]) hr.units0 rfl sc_marks_in.nd (pi_tup (pv 0)) (blkOk_by (N := N_marks_in) (sc := defScope s_marks_in) (by decide +kernel)) (by decide) (fun _ _ _ _ _ => pg_tup rfl (pgs_cons (pg_name (i := 1) sc_marks_in.nd rfl (Or.inl rfl)) (pgs_cons (pg_name (i := 2) sc_marks_in.nd rfl (Or.inl rfl)) pgs_nil))) (fun _ _ _ _ _ => pts_nil) (fun _ _ _ _ _ => pi_tup (pv 2)) (fun _ _ _ _ _ => pg_name (i := 3) sc_marks_in.nd rfl (Or.inl rfl)) (fun _ _ _ _ _ => pts_nil) (fun _ _ _ _ _ => pe_tup (pa_cons (pv 1) (pa_cons (pv 3) pa_nil))) (fun _ _ _ _ _ => pe_bl)))
/-! ### are_marks_of -/
abbrev s_are_marks_of : Stmt := top 35
abbrev N_are_marks_of : List Str := ["reads", "value", "known", "mark", "one", "other"]
theorem sc_are_marks_of : FnScope N_are_marks_of ["reads", "value"] (defScope s_are_marks_of) := ⟨rfl, rfl, rfl, by decide +kernel, rfl, by decide +kernel, by decide +kernel⟩
def W_are_marks_of : WS := (wSeq (wIfS (wOrT (wNotT (wB (wIs isTuple (wVar 1)))) (wNotT (wB (wCall (fAll fun bs => bs.all id) (wCons (wLc (wiTup (wVar 1)) (wgName 3) wYes (wFun P_is_mark (wCons (wVar 3) wNil)) [3]) wNil))))) (wRet (wC (.bool false))) wNx) (wSeq (wIfS (wNotT (wB (wCall (fAll fun bs => bs.all id) (wCons (wLc (wiZipT (wCons (wVar 1) (wCons (wSlT (wVar 1) (wPart (wC (.int 1))) wNoPart) wNil))) (wgTup 2 (wgCons (wgName 4) (wgCons (wgName 5) wgNil))) wYes (wBin (fPIS ltIS) (wVar 4) (wVar 5)) [4, 5]) wNil)))) (wRet (wC (.bool false))) wNx) (wSeq (wSet 2 (wFunT P_marks_in (wCons (wVar 0) wNil))) (wRet (wCall (fAll fun bs => bs.all id) (wCons (wLc (wiTup (wVar 1)) (wgName 3) wYes (wInT 2 (wVar 3)) [3]) wNil))))))
def P_are_marks_of : PD := fun ds R => ds.length = 2 ∧ W_are_marks_of (endD R) (startE 6 ds)
theorem has_are_marks_of (T : Tx P K mg) (H_is_mark : Has P w K mg base "is_mark" 4 ["value"] (spD K 1 P_is_mark)) (H_marks_in : Has P w K mg base "marks_in" 1 ["reads"] (spT K 1 P_marks_in)) : Has P w K mg base "are_marks_of" 5 ["reads", "value"] (spD K 2 P_are_marks_of) := by
  refine has_d (T.d_are_marks_of) sc_are_marks_of rfl (fun F => F.bindsN fun _ _ _ _ _ _ us hl => match us, hl with | [_, _], _ => rfl) (fun f fd F cdv A outer s H E hr => ?_)
  have hu := hu_of hr
  have hu64 := hr.units
  have hu0 := hr.units0
  have hu20 := hu20_of hr.units
  exact ⟨W_are_marks_of, (puss_cons (pus_if (put_w (puw_or (put_not (put_val (pu_is isk_tuple rfl T.b_isinstance bb_isinstance rfl T.b_tuple bb_tuple (pu_v 1)))) (puw_or1 (put_not (put_val (pu_blt (cr_all rfl) sc_all rfl T.b_all bb_all (pua_cons (pu_lc (own := [("mark", 3)]) sc_are_marks_of.nd (blkOk_by (N := N_are_marks_of) (sc := defScope s_are_marks_of) (by decide +kernel)) (pui_tup (pu_v 1)) (fun _ _ _ _ _ => (pug_name 3 sc_are_marks_of.nd)) (fun _ _ _ _ _ => puts_nil) (fun _ _ _ _ _ => (pu_funH H_is_mark (hr.mono (by decide)) (pua_cons (pu_v 3) pua_nil)))) pua_nil))))))) (puss_one (pus_ret pu_bl)) puss_nil) (puss_cons (pus_if (put_not (put_val (pu_blt (cr_all rfl) sc_all rfl T.b_all bb_all (pua_cons (pu_lc (own := [("one", 4), ("other", 5)]) sc_are_marks_of.nd (blkOk_by (N := N_are_marks_of) (sc := defScope s_are_marks_of) (by decide +kernel)) (pui_zipT (pua_cons (pu_v 1) (pua_cons (pu_slT (pu_v 1) (puo_some pu_int) puo_none) pua_nil)) T.b_zip) (fun _ _ _ _ _ => (pug_tup (pugs_cons (pug_name 4 sc_are_marks_of.nd) (pugs_cons (pug_name 5 sc_are_marks_of.nd) pugs_nil)))) (fun _ _ _ _ _ => puts_nil) (fun _ _ _ _ _ => (pu_cmp (op_ltP hu0) sr_PIS (pu_v 4) (pu_v 5)))) pua_nil)))) (puss_one (pus_ret pu_bl)) puss_nil) (puss_cons (pus_set 2 (puv_funTH H_marks_in (hr.mono (by decide)) (pua_cons (pu_v 0) pua_nil)) sc_are_marks_of.nd) (puss_one (pus_ret (pu_blt (cr_all rfl) sc_all rfl T.b_all bb_all (pua_cons (pu_lc (own := [("mark", 3)]) sc_are_marks_of.nd (blkOk_by (N := N_are_marks_of) (sc := defScope s_are_marks_of) (by decide +kernel)) (pui_tup (pu_v 1)) (fun _ _ _ _ _ => (pug_name 3 sc_are_marks_of.nd)) (fun _ _ _ _ _ => puts_nil) (fun _ _ _ _ _ => (pu_inT 2 (pu_v 3) hu))) pua_nil))))))), fun ds R hl h => h.2⟩
/-! ### asks_in -/
abbrev s_asks_in : Stmt := top 37
abbrev N_asks_in : List Str := ["held", "reads", "last", "found", "reading", "keys", "key"]
theorem sc_asks_in : FnScope N_asks_in ["held", "reads"] (defScope s_asks_in) := ⟨rfl, rfl, rfl, by decide +kernel, rfl, by decide +kernel, by decide +kernel⟩
def W_asks_in : WS := (wSeq (wPar 2 3 wNewK (wOl wNil)) (wSeq (wFor (wiTup (wVar 1)) (wgTup 2 (wgCons (wgName 4) (wgCons (wgName 5) wgNil))) (wFor (wiTup (wVar 5)) (wgName 6) (wIfS (wOrT (wB (wIn true 2 (wVar 6))) (wB (wBin (fB fun i j => decide (j < i)) (wVar 4) (wBin (fI fun i j => i + j) (wDget 2 (wVar 6)) (wVar 0))))) (wSeq (wDput 2 (wVar 6) (wFz (wVar 4))) (wDrop (wApp 3 (wTup (wCons (wVar 4) (wCons (wVar 6) wNil)))))) wNx))) (wRet (wCall fTuple (wCons (wCall fSorted (wCons (wVar 3) wNil)) wNil)))))
def P_asks_in : PD := fun ds R => ds.length = 2 ∧ W_asks_in (endD R) (startE 7 ds)
theorem has_asks_in (T : Tx P K mg)  : Has P w K mg base "asks_in" 1 ["held", "reads"] (spD K 2 P_asks_in) := by
  refine has_d (T.d_asks_in) sc_asks_in rfl (fun F => F.bindsN fun _ _ _ _ _ _ us hl => match us, hl with | [_, _], _ => rfl) (fun f fd F cdv A outer s H E hr => ?_)
  have hu := hu_of hr
  have hu64 := hr.units
  have hu0 := hr.units0
  have hu20 := hu20_of hr.units
  exact ⟨W_asks_in, (puss_cons (pus_par 2 3 puv_dK (puv_lst pua_nil) sc_asks_in.nd (hw := by rfl)) (puss_cons (pus_for (vs := [4, 5]) PassesOwn.never rfl (pui_tup (pu_v 1)) (pug_tup (pugs_cons (pug_name 4 sc_asks_in.nd) (pugs_cons (pug_name 5 sc_asks_in.nd) pugs_nil))) (puss_one (pus_for (vs := [6]) PassesOwn.never rfl (pui_tup (pu_v 5)) (pug_name 6 sc_asks_in.nd) (puss_one (pus_if (put_w (puw_or (put_notin 2 (pu_v 6) hu) (puw_or1 (put_cmp op_gt sr_b (pu_v 4) (pu_op op_add sr_i (pu_dget 2 (pu_v 6) hu) (pu_v 0)))))) (puss_cons (pus_dput 2 (pu_v 6) (pu_v 4) hu) (puss_one (pus_expr (pu_append 3 (pu_tup (pua_cons (pu_v 4) (pua_cons (pu_v 6) pua_nil))))))) puss_nil))))) (puss_one (pus_ret (pu_ty (call_tuple_of) sc_tuple rfl T.b_tuple bb_tuple (pua_cons (pu_blt (cr_sortIS) sc_sorted rfl T.b_sorted bb_sorted (pua_cons (pu_v 3) pua_nil)) pua_nil)))))), fun ds R hl h => h.2⟩
/-! ### do_cover_in -/
abbrev s_do_cover_in : Stmt := top 38
abbrev N_do_cover_in : List Str := ["held", "reads", "asks", "last", "waiting", "reading", "keys", "asked", "key"]
theorem sc_do_cover_in : FnScope N_do_cover_in ["held", "reads", "asks"] (defScope s_do_cover_in) := ⟨rfl, rfl, rfl, by decide +kernel, rfl, by decide +kernel, by decide +kernel⟩
def W_do_cover_in : WS := (wSeq (wPar 3 4 wNewK (wOlOf (wCons (wVar 2) wNil))) (wSeq (wFor (wiTup (wVar 1)) (wgTup 2 (wgCons (wgName 5) (wgCons (wgName 6) wgNil))) (wSeq (wWhile (wAndT (wB (wBin fNeD (wVar 4) (wLst wNil))) (wB (wBin (fB fun i j => decide (i ≤ j)) (wBin fIx (wBin fIx (wVar 4) (wC (.int 0))) (wC (.int 0))) (wVar 5)))) (wSeq (wAsg (wPop0 4) (wgTup 2 (wgCons (wgName 7) (wgCons (wgName 8) wgNil)))) (wDput 3 (wVar 8) (wFz (wVar 7))))) (wIfS (wB (wCall (fAll fun bs => bs.any id) (wCons (wLc (wiTup (wVar 6)) (wgName 8) wYes (wOr (wIn true 3 (wVar 8)) (wBin (fB fun i j => decide (j < i)) (wVar 5) (wBin (fI fun i j => i + j) (wDget 3 (wVar 8)) (wVar 0)))) [8]) wNil))) (wRet (wC (.bool false))) wNx))) (wRet (wC (.bool true)))))
def P_do_cover_in : PD := fun ds R => ds.length = 3 ∧ W_do_cover_in (endD R) (startE 9 ds)
theorem has_do_cover_in (T : Tx P K mg)  : Has P w K mg base "do_cover_in" 1 ["held", "reads", "asks"] (spD K 3 P_do_cover_in) := by
  refine has_d (T.d_do_cover_in) sc_do_cover_in rfl (fun F => F.bindsN fun _ _ _ _ _ _ us hl => match us, hl with | [_, _, _], _ => rfl) (fun f fd F cdv A outer s H E hr => ?_)
  have hu := hu_of hr
  have hu64 := hr.units
  have hu0 := hr.units0
  have hu20 := hu20_of hr.units
  exact ⟨W_do_cover_in, (puss_cons (pus_par2 3 4 puv_dK (puv_list (pua_cons (pu_v 2) pua_nil) T.b_list) sc_do_cover_in.nd) (puss_cons (pus_for (vs := [5, 6]) PassesOwn.never rfl (pui_tup (pu_v 1)) (pug_tup (pugs_cons (pug_name 5 sc_do_cover_in.nd) (pugs_cons (pug_name 6 sc_do_cover_in.nd) pugs_nil))) (puss_cons (pus_while PassesOwn.never (put_w (puw_and (put_cmp (op_neD hu64) sr_neD (pu_v 4) (pu_lst pua_nil)) (puw_and1 (put_cmp op_le sr_b (pu_ix (pu_ix (pu_v 4) pu_int) pu_int) (pu_v 5))))) (puss_cons (pus_asg (vs := [7, 8]) (pu_pop0 4) (pug_tup (pugs_cons (pug_name 7 sc_do_cover_in.nd) (pugs_cons (pug_name 8 sc_do_cover_in.nd) pugs_nil)))) (puss_one (pus_dput 3 (pu_v 8) (pu_v 7) hu)))) (puss_one (pus_if (put_val (pu_blt (cr_any rfl) sc_any rfl T.b_any bb_any (pua_cons (pu_lc (own := [("key", 8)]) sc_do_cover_in.nd (blkOk_by (N := N_do_cover_in) (sc := defScope s_do_cover_in) (by decide +kernel)) (pui_tup (pu_v 6)) (fun _ _ _ _ _ => (pug_name 8 sc_do_cover_in.nd)) (fun _ _ _ _ _ => puts_nil) (fun _ _ _ _ _ => (pu_or (pu_notin 3 (pu_v 8) hu) (pu_one (pu_cmp op_gt sr_b (pu_v 5) (pu_op op_add sr_i (pu_dget 3 (pu_v 8) hu) (pu_v 0))))))) pua_nil))) (puss_one (pus_ret pu_bl)) puss_nil)))) (puss_one (pus_ret pu_bl)))), fun ds R hl h => h.2⟩
/-! ### are_apart_in -/
abbrev s_are_apart_in : Stmt := top 39
abbrev N_are_apart_in : List Str := ["held", "marks", "last", "reading", "key"]
theorem sc_are_apart_in : FnScope N_are_apart_in ["held", "marks"] (defScope s_are_apart_in) := ⟨rfl, rfl, rfl, by decide +kernel, rfl, by decide +kernel, by decide +kernel⟩
def W_are_apart_in : WS := (wSeq (wSet 2 wNewK) (wSeq (wFor (wiTup (wVar 1)) (wgTup 2 (wgCons (wgName 3) (wgCons (wgName 4) wgNil))) (wSeq (wIfS (wAndT (wB (wIn false 2 (wVar 4))) (wB (wBin (fB fun i j => decide (i ≤ j)) (wVar 3) (wBin (fI fun i j => i + j) (wDget 2 (wVar 4)) (wVar 0))))) (wRet (wC (.bool false))) wNx) (wDput 2 (wVar 4) (wFz (wVar 3))))) (wRet (wC (.bool true)))))
def P_are_apart_in : PD := fun ds R => ds.length = 2 ∧ W_are_apart_in (endD R) (startE 5 ds)
theorem has_are_apart_in (T : Tx P K mg)  : Has P w K mg base "are_apart_in" 1 ["held", "marks"] (spD K 2 P_are_apart_in) := by
  refine has_d (T.d_are_apart_in) sc_are_apart_in rfl (fun F => F.bindsN fun _ _ _ _ _ _ us hl => match us, hl with | [_, _], _ => rfl) (fun f fd F cdv A outer s H E hr => ?_)
  have hu := hu_of hr
  have hu64 := hr.units
  have hu0 := hr.units0
  have hu20 := hu20_of hr.units
  exact ⟨W_are_apart_in, (puss_cons (pus_set 2 puv_dK sc_are_apart_in.nd) (puss_cons (pus_for (vs := [3, 4]) PassesOwn.never rfl (pui_tup (pu_v 1)) (pug_tup (pugs_cons (pug_name 3 sc_are_apart_in.nd) (pugs_cons (pug_name 4 sc_are_apart_in.nd) pugs_nil))) (puss_cons (pus_if (put_w (puw_and (put_in 2 (pu_v 4) hu) (puw_and1 (put_cmp op_le sr_b (pu_v 3) (pu_op op_add sr_i (pu_dget 2 (pu_v 4) hu) (pu_v 0)))))) (puss_one (pus_ret pu_bl)) puss_nil) (puss_one (pus_dput 2 (pu_v 4) (pu_v 3) hu)))) (puss_one (pus_ret pu_bl)))), fun ds R hl h => h.2⟩
end
end AF

set_option Elab.async false
set_option linter.all false
set_option maxRecDepth 100000
set_option maxHeartbeats 4000000
namespace AF
open PySem PySem.Spec PyProof.Rows L2
section
variable {P : Program} {w : World} {K : PySem.W.Frag} {mg : Str → Option Value} {base : Heap}
/-! ### require_from -/
abbrev s_require_from : Stmt := top 10
abbrev N_require_from : List Str := ["value", "least", "most"]
theorem sc_require_from : FnScope N_require_from ["value", "least", "most"] (defScope s_require_from) := ⟨rfl, rfl, rfl, by decide +kernel, rfl, by decide +kernel, by decide +kernel⟩
def W_require_from : WSX := (xIf (wNotT (wB (wFun P_is_from (wCons (wVar 0) (wCons (wVar 1) (wCons (wVar 2) wNil)))))) (xRaiseV "InvalidNumber" "given" (wVar 0)) (fun _ => wNx))
def P_require_from : PX := fun ds R RX => ds.length = 3 ∧ W_require_from RX (endD R) (startE 3 ds)
theorem has_require_from (T : Tx P K mg) (H_is_from : Has P w K mg base "is_from" 2 ["value", "least", "most"] (spD K 3 P_is_from)) : HasX P w K mg base "require_from" 3 ["value", "least", "most"] (spX K mg 3 P_require_from) := by
  refine has_xd (dvs := []) (T.d_require_from) sc_require_from rfl (fun F => F.bindsN fun _ _ _ _ _ _ us hl => match us, hl with | [_, _, _], _ => rfl) (fun f fd F cdv A outer s H E hr => ?_)
  have hu := hu_of hr
  have hu64 := hr.units
  have hu0 := hr.units0
  have hu20 := hu20_of hr.units
  exact ⟨W_require_from, (puxs_one (pux_if (put_not (put_val (pu_funH H_is_from (hr.mono (by decide)) (pua_cons (pu_v 0) (pua_cons (pu_v 1) (pua_cons (pu_v 2) pua_nil)))))) (puxs_one (pux_raiseV (k := 0) (takes_of rfl rfl rfl rfl) T.x_InvalidNumber T.b_super (hr.mono (by decide)) (pu_v 0))) (puxs_of puss_nil))), fun ds R RX hl h => h.2⟩
/-! ### require_tick -/
abbrev s_require_tick : Stmt := top 11
abbrev N_require_tick : List Str := ["value"]
theorem sc_require_tick : FnScope N_require_tick ["value"] (defScope s_require_tick) := ⟨rfl, rfl, rfl, by decide +kernel, rfl, by decide +kernel, by decide +kernel⟩
def W_require_tick : WSX := (xIf (wNotT (wB (wFun P_is_tick (wCons (wVar 0) wNil)))) (xRaiseV "InvalidNumber" "given" (wVar 0)) (fun _ => wNx))
def P_require_tick : PX := fun ds R RX => ds.length = 1 ∧ W_require_tick RX (endD R) (startE 1 ds)
theorem has_require_tick (T : Tx P K mg) (H_is_tick : Has P w K mg base "is_tick" 3 ["value"] (spD K 1 P_is_tick)) : HasX P w K mg base "require_tick" 4 ["value"] (spX K mg 1 P_require_tick) := by
  refine has_xd (dvs := []) (T.d_require_tick) sc_require_tick rfl (fun F => F.bindsN fun _ _ _ _ _ _ us hl => match us, hl with | [_], _ => rfl) (fun f fd F cdv A outer s H E hr => ?_)
  have hu := hu_of hr
  have hu64 := hr.units
  have hu0 := hr.units0
  have hu20 := hu20_of hr.units
  exact ⟨W_require_tick, (puxs_one (pux_if (put_not (put_val (pu_funH H_is_tick (hr.mono (by decide)) (pua_cons (pu_v 0) pua_nil)))) (puxs_one (pux_raiseV (k := 0) (takes_of rfl rfl rfl rfl) T.x_InvalidNumber T.b_super (hr.mono (by decide)) (pu_v 0))) (puxs_of puss_nil))), fun ds R RX hl h => h.2⟩
/-! ### require_spread -/
abbrev s_require_spread : Stmt := top 20
abbrev N_require_spread : List Str := ["spread"]
theorem sc_require_spread : FnScope N_require_spread ["spread"] (defScope s_require_spread) := ⟨rfl, rfl, rfl, by decide +kernel, rfl, by decide +kernel, by decide +kernel⟩
def W_require_spread : WSX := (xCall P_require_from (wCons (wVar 0) (wCons (wC (.int 1)) (wCons (wC (.int 6)) wNil))))
def P_require_spread : PX := fun ds R RX => ds.length = 1 ∧ W_require_spread RX (endD R) (startE 1 ds)
theorem has_require_spread (T : Tx P K mg) (H_require_from : HasX P w K mg base "require_from" 3 ["value", "least", "most"] (spX K mg 3 P_require_from)) : HasX P w K mg base "require_spread" 4 ["spread"] (spX K mg 1 P_require_spread) := by
  refine has_xd (dvs := []) (T.d_require_spread) sc_require_spread rfl (fun F => F.bindsN fun _ _ _ _ _ _ us hl => match us, hl with | [_], _ => rfl) (fun f fd F cdv A outer s H E hr => ?_)
  have hu := hu_of hr
  have hu64 := hr.units
  have hu0 := hr.units0
  have hu20 := hu20_of hr.units
  exact ⟨W_require_spread, (puxs_one (pux_call (takes_of rfl rfl rfl rfl) H_require_from (hr.mono (by decide)) (pua_cons (pu_v 0) (pua_cons pu_int (pua_cons (pu_gi rfl T.c_MAX_SPREAD) pua_nil))))), fun ds R RX hl h => h.2⟩
/-! ### require_reads -/
abbrev s_require_reads : Stmt := top 40
abbrev N_require_reads : List Str := ["held", "reads"]
theorem sc_require_reads : FnScope N_require_reads ["held", "reads"] (defScope s_require_reads) := ⟨rfl, rfl, rfl, by decide +kernel, rfl, by decide +kernel, by decide +kernel⟩
def W_require_reads : WSX := (xSeq (xCall P_require_from (wCons (wVar 0) (wCons (wC (.int 0)) (wCons (wC (.int 200)) wNil)))) (xIf (wNotT (wB (wFun P_are_reads (wCons (wVar 1) wNil)))) (xRaiseM "InvalidOperation") (fun _ => wNx)))
def P_require_reads : PX := fun ds R RX => ds.length = 2 ∧ W_require_reads RX (endD R) (startE 2 ds)
theorem has_require_reads (T : Tx P K mg) (H_are_reads : Has P w K mg base "are_reads" 5 ["value"] (spD K 1 P_are_reads)) (H_require_from : HasX P w K mg base "require_from" 3 ["value", "least", "most"] (spX K mg 3 P_require_from)) : HasX P w K mg base "require_reads" 6 ["held", "reads"] (spX K mg 2 P_require_reads) := by
  refine has_xd (dvs := []) (T.d_require_reads) sc_require_reads rfl (fun F => F.bindsN fun _ _ _ _ _ _ us hl => match us, hl with | [_, _], _ => rfl) (fun f fd F cdv A outer s H E hr => ?_)
  have hu := hu_of hr
  have hu64 := hr.units
  have hu0 := hr.units0
  have hu20 := hu20_of hr.units
  exact ⟨W_require_reads, (puxs_cons (pux_call (takes_of rfl rfl rfl rfl) H_require_from (hr.mono (by decide)) (pua_cons (pu_v 0) (pua_cons pu_int (pua_cons (pu_gi rfl T.c_MAX_HELD) pua_nil)))) (puxs_one (pux_if (put_not (put_val (pu_funH H_are_reads (hr.mono (by decide)) (pua_cons (pu_v 1) pua_nil)))) (puxs_one (pux_raiseM (takes_of rfl rfl rfl rfl) T.x_InvalidOperation)) (puxs_of puss_nil)))), fun ds R RX hl h => h.2⟩
/-! ### require_number -/
abbrev s_require_number : Stmt := top 41
abbrev N_require_number : List Str := ["held", "reads", "number"]
theorem sc_require_number : FnScope N_require_number ["held", "reads", "number"] (defScope s_require_number) := ⟨rfl, rfl, rfl, by decide +kernel, rfl, by decide +kernel, by decide +kernel⟩
def W_require_number : WSX := (xSeq (xCall P_require_reads (wCons (wVar 0) (wCons (wVar 1) wNil))) (xCall P_require_from (wCons (wVar 2) (wCons (wC (.int 0)) (wCons (wC (.int 400)) wNil)))))
def P_require_number : PX := fun ds R RX => ds.length = 3 ∧ W_require_number RX (endD R) (startE 3 ds)
theorem has_require_number (T : Tx P K mg) (H_require_from : HasX P w K mg base "require_from" 3 ["value", "least", "most"] (spX K mg 3 P_require_from)) (H_require_reads : HasX P w K mg base "require_reads" 6 ["held", "reads"] (spX K mg 2 P_require_reads)) : HasX P w K mg base "require_number" 7 ["held", "reads", "number"] (spX K mg 3 P_require_number) := by
  refine has_xd (dvs := []) (T.d_require_number) sc_require_number rfl (fun F => F.bindsN fun _ _ _ _ _ _ us hl => match us, hl with | [_, _, _], _ => rfl) (fun f fd F cdv A outer s H E hr => ?_)
  have hu := hu_of hr
  have hu64 := hr.units
  have hu0 := hr.units0
  have hu20 := hu20_of hr.units
  exact ⟨W_require_number, (puxs_cons (pux_call (takes_of rfl rfl rfl rfl) H_require_reads (hr.mono (by decide)) (pua_cons (pu_v 0) (pua_cons (pu_v 1) pua_nil))) (puxs_one (pux_call (takes_of rfl rfl rfl rfl) H_require_from (hr.mono (by decide)) (pua_cons (pu_v 2) (pua_cons pu_int (pua_cons (pu_gi rfl T.c_MAX_ASKED) pua_nil)))))), fun ds R RX hl h => h.2⟩
/-! ### held_at -/
abbrev s_held_at : Stmt := top 42
abbrev N_held_at : List Str := ["spread", "term", "depth"]
theorem sc_held_at : FnScope N_held_at ["spread", "term", "depth"] (defScope s_held_at) := ⟨rfl, rfl, rfl, by decide +kernel, rfl, by decide +kernel, by decide +kernel⟩
def W_held_at : WSX := (xSeq (xCall P_require_spread (wCons (wVar 0) wNil)) (xSeq (xCall P_require_from (wCons (wVar 1) (wCons (wC (.int 1)) (wCons (wC (.int 200)) wNil)))) (xSeq (xCall P_require_from (wCons (wVar 2) (wCons (wC (.int 1)) (wCons (wC (.int 6)) wNil)))) (fun _ => wNever))))
def P_held_at : PX := fun ds R RX => ds.length = 3 ∧ W_held_at RX (endD R) (startE 3 ds)
theorem has_held_at (T : Tx P K mg) (H_require_from : HasX P w K mg base "require_from" 3 ["value", "least", "most"] (spX K mg 3 P_require_from)) (H_require_spread : HasX P w K mg base "require_spread" 4 ["spread"] (spX K mg 1 P_require_spread)) : HasX P w K mg base "held_at" 5 ["spread", "term", "depth"] (spX K mg 3 P_held_at) := by
  refine has_xd (dvs := []) (T.d_held_at) sc_held_at rfl (fun F => F.bindsN fun _ _ _ _ _ _ us hl => match us, hl with | [_, _, _], _ => rfl) (fun f fd F cdv A outer s H E hr => ?_)
  have hu := hu_of hr
  have hu64 := hr.units
  have hu0 := hr.units0
  have hu20 := hu20_of hr.units
  exact ⟨W_held_at, (puxs_cons (pux_call (takes_of rfl rfl rfl rfl) H_require_spread (hr.mono (by decide)) (pua_cons (pu_v 0) pua_nil)) (puxs_cons (pux_call (takes_of rfl rfl rfl rfl) H_require_from (hr.mono (by decide)) (pua_cons (pu_v 1) (pua_cons pu_int (pua_cons (pu_gi rfl T.c_MAX_TERM) pua_nil)))) (puxs_cons (pux_call (takes_of rfl rfl rfl rfl) H_require_from (hr.mono (by decide)) (pua_cons (pu_v 2) (pua_cons pu_int (pua_cons (pu_gi rfl T.c_MAX_DEPTH) pua_nil)))) (puxs_of puss_never)))), fun ds R RX hl h => h.2⟩
/-! ### greatest_depth -/
abbrev s_greatest_depth : Stmt := top 43
abbrev N_greatest_depth : List Str := ["spread", "term", "depth"]
theorem sc_greatest_depth : FnScope N_greatest_depth ["spread", "term"] (defScope s_greatest_depth) := ⟨rfl, rfl, rfl, by decide +kernel, rfl, by decide +kernel, by decide +kernel⟩
def W_greatest_depth : WSX := (xSeq (xCall P_require_spread (wCons (wVar 0) wNil)) (xSeq (xCall P_require_from (wCons (wVar 1) (wCons (wC (.int 1)) (wCons (wC (.int 200)) wNil)))) (fun _ => wNever)))
def P_greatest_depth : PX := fun ds R RX => ds.length = 2 ∧ W_greatest_depth RX (endD R) (startE 3 ds)
theorem has_greatest_depth (T : Tx P K mg) (H_require_from : HasX P w K mg base "require_from" 3 ["value", "least", "most"] (spX K mg 3 P_require_from)) (H_require_spread : HasX P w K mg base "require_spread" 4 ["spread"] (spX K mg 1 P_require_spread)) : HasX P w K mg base "greatest_depth" 5 ["spread", "term"] (spX K mg 2 P_greatest_depth) := by
  refine has_xd (dvs := []) (T.d_greatest_depth) sc_greatest_depth rfl (fun F => F.bindsN fun _ _ _ _ _ _ us hl => match us, hl with | [_, _], _ => rfl) (fun f fd F cdv A outer s H E hr => ?_)
  have hu := hu_of hr
  have hu64 := hr.units
  have hu0 := hr.units0
  have hu20 := hu20_of hr.units
  exact ⟨W_greatest_depth, (puxs_cons (pux_call (takes_of rfl rfl rfl rfl) H_require_spread (hr.mono (by decide)) (pua_cons (pu_v 0) pua_nil)) (puxs_cons (pux_call (takes_of rfl rfl rfl rfl) H_require_from (hr.mono (by decide)) (pua_cons (pu_v 1) (pua_cons pu_int (pua_cons (pu_gi rfl T.c_MAX_TERM) pua_nil)))) (puxs_of puss_never))), fun ds R RX hl h => h.2⟩
/-! ### least_term -/
abbrev s_least_term : Stmt := top 44
abbrev N_least_term : List Str := ["spread", "depth", "units"]
theorem sc_least_term : FnScope N_least_term ["spread", "depth", "units"] (defScope s_least_term) := ⟨rfl, rfl, rfl, by decide +kernel, rfl, by decide +kernel, by decide +kernel⟩
def W_least_term : WSX := (xSeq (xCall P_require_spread (wCons (wVar 0) wNil)) (xSeq (xCall P_require_from (wCons (wVar 1) (wCons (wC (.int 1)) (wCons (wC (.int 6)) wNil)))) (xSeq (xCall P_require_from (wCons (wVar 2) (wCons (wC (.int 1)) (wCons (wC (.int 200)) wNil)))) (fun _ => wNever))))
def P_least_term : PX := fun ds R RX => ds.length = 3 ∧ W_least_term RX (endD R) (startE 3 ds)
theorem has_least_term (T : Tx P K mg) (H_require_from : HasX P w K mg base "require_from" 3 ["value", "least", "most"] (spX K mg 3 P_require_from)) (H_require_spread : HasX P w K mg base "require_spread" 4 ["spread"] (spX K mg 1 P_require_spread)) : HasX P w K mg base "least_term" 5 ["spread", "depth", "units"] (spX K mg 3 P_least_term) := by
  refine has_xd (dvs := []) (T.d_least_term) sc_least_term rfl (fun F => F.bindsN fun _ _ _ _ _ _ us hl => match us, hl with | [_, _, _], _ => rfl) (fun f fd F cdv A outer s H E hr => ?_)
  have hu := hu_of hr
  have hu64 := hr.units
  have hu0 := hr.units0
  have hu20 := hu20_of hr.units
  exact ⟨W_least_term, (puxs_cons (pux_call (takes_of rfl rfl rfl rfl) H_require_spread (hr.mono (by decide)) (pua_cons (pu_v 0) pua_nil)) (puxs_cons (pux_call (takes_of rfl rfl rfl rfl) H_require_from (hr.mono (by decide)) (pua_cons (pu_v 1) (pua_cons pu_int (pua_cons (pu_gi rfl T.c_MAX_DEPTH) pua_nil)))) (puxs_cons (pux_call (takes_of rfl rfl rfl rfl) H_require_from (hr.mono (by decide)) (pua_cons (pu_v 2) (pua_cons pu_int (pua_cons (pu_gi rfl T.c_MAX_TERM) pua_nil)))) (puxs_of puss_never)))), fun ds R RX hl h => h.2⟩
/-! ### asks_of -/
abbrev s_asks_of : Stmt := top 45
abbrev N_asks_of : List Str := ["held", "reads"]
theorem sc_asks_of : FnScope N_asks_of ["held", "reads"] (defScope s_asks_of) := ⟨rfl, rfl, rfl, by decide +kernel, rfl, by decide +kernel, by decide +kernel⟩
def W_asks_of : WSX := (xSeq (xCall P_require_reads (wCons (wVar 0) (wCons (wVar 1) wNil))) (fun _ => (wRet (wFun P_asks_in (wCons (wVar 0) (wCons (wVar 1) wNil))))))
def P_asks_of : PX := fun ds R RX => ds.length = 2 ∧ W_asks_of RX (endD R) (startE 2 ds)
theorem has_asks_of (T : Tx P K mg) (H_asks_in : Has P w K mg base "asks_in" 1 ["held", "reads"] (spD K 2 P_asks_in)) (H_require_reads : HasX P w K mg base "require_reads" 6 ["held", "reads"] (spX K mg 2 P_require_reads)) : HasX P w K mg base "asks_of" 7 ["held", "reads"] (spX K mg 2 P_asks_of) := by
  refine has_xd (dvs := []) (T.d_asks_of) sc_asks_of rfl (fun F => F.bindsN fun _ _ _ _ _ _ us hl => match us, hl with | [_, _], _ => rfl) (fun f fd F cdv A outer s H E hr => ?_)
  have hu := hu_of hr
  have hu64 := hr.units
  have hu0 := hr.units0
  have hu20 := hu20_of hr.units
  exact ⟨W_asks_of, (puxs_cons (pux_call (takes_of rfl rfl rfl rfl) H_require_reads (hr.mono (by decide)) (pua_cons (pu_v 0) (pua_cons (pu_v 1) pua_nil))) (puxs_of (puss_one (pus_ret (pu_funH H_asks_in (hr.mono (by decide)) (pua_cons (pu_v 0) (pua_cons (pu_v 1) pua_nil))))))), fun ds R RX hl h => h.2⟩
/-! ### fewest_asks -/
abbrev s_fewest_asks : Stmt := top 46
abbrev N_fewest_asks : List Str := ["held", "reads"]
theorem sc_fewest_asks : FnScope N_fewest_asks ["held", "reads"] (defScope s_fewest_asks) := ⟨rfl, rfl, rfl, by decide +kernel, rfl, by decide +kernel, by decide +kernel⟩
def W_fewest_asks : WSX := (xSeq (xCall P_require_reads (wCons (wVar 0) (wCons (wVar 1) wNil))) (fun _ => (wRet (wCall fLen (wCons (wFun P_asks_in (wCons (wVar 0) (wCons (wVar 1) wNil))) wNil)))))
def P_fewest_asks : PX := fun ds R RX => ds.length = 2 ∧ W_fewest_asks RX (endD R) (startE 2 ds)
theorem has_fewest_asks (T : Tx P K mg) (H_asks_in : Has P w K mg base "asks_in" 1 ["held", "reads"] (spD K 2 P_asks_in)) (H_require_reads : HasX P w K mg base "require_reads" 6 ["held", "reads"] (spX K mg 2 P_require_reads)) : HasX P w K mg base "fewest_asks" 7 ["held", "reads"] (spX K mg 2 P_fewest_asks) := by
  refine has_xd (dvs := []) (T.d_fewest_asks) sc_fewest_asks rfl (fun F => F.bindsN fun _ _ _ _ _ _ us hl => match us, hl with | [_, _], _ => rfl) (fun f fd F cdv A outer s H E hr => ?_)
  have hu := hu_of hr
  have hu64 := hr.units
  have hu0 := hr.units0
  have hu20 := hu20_of hr.units
  exact ⟨W_fewest_asks, (puxs_cons (pux_call (takes_of rfl rfl rfl rfl) H_require_reads (hr.mono (by decide)) (pua_cons (pu_v 0) (pua_cons (pu_v 1) pua_nil))) (puxs_of (puss_one (pus_ret (pu_blt (call_len) sc_len rfl T.b_len bb_len (pua_cons (pu_funH H_asks_in (hr.mono (by decide)) (pua_cons (pu_v 0) (pua_cons (pu_v 1) pua_nil))) pua_nil)))))), fun ds R RX hl h => h.2⟩
/-! ### do_cover -/
abbrev s_do_cover : Stmt := top 47
abbrev N_do_cover : List Str := ["held", "reads", "value"]
theorem sc_do_cover : FnScope N_do_cover ["held", "reads", "value"] (defScope s_do_cover) := ⟨rfl, rfl, rfl, by decide +kernel, rfl, by decide +kernel, by decide +kernel⟩
def W_do_cover : WSX := (xSeq (xCall P_require_reads (wCons (wVar 0) (wCons (wVar 1) wNil))) (fun _ => (wRet (wAnd (wFun P_are_marks_of (wCons (wVar 1) (wCons (wVar 2) wNil))) (wFun P_do_cover_in (wCons (wVar 0) (wCons (wVar 1) (wCons (wVar 2) wNil))))))))
def P_do_cover : PX := fun ds R RX => ds.length = 3 ∧ W_do_cover RX (endD R) (startE 3 ds)
theorem has_do_cover (T : Tx P K mg) (H_are_marks_of : Has P w K mg base "are_marks_of" 5 ["reads", "value"] (spD K 2 P_are_marks_of)) (H_do_cover_in : Has P w K mg base "do_cover_in" 1 ["held", "reads", "asks"] (spD K 3 P_do_cover_in)) (H_require_reads : HasX P w K mg base "require_reads" 6 ["held", "reads"] (spX K mg 2 P_require_reads)) : HasX P w K mg base "do_cover" 7 ["held", "reads", "value"] (spX K mg 3 P_do_cover) := by
  refine has_xd (dvs := []) (T.d_do_cover) sc_do_cover rfl (fun F => F.bindsN fun _ _ _ _ _ _ us hl => match us, hl with | [_, _, _], _ => rfl) (fun f fd F cdv A outer s H E hr => ?_)
  have hu := hu_of hr
  have hu64 := hr.units
  have hu0 := hr.units0
  have hu20 := hu20_of hr.units
  exact ⟨W_do_cover, (puxs_cons (pux_call (takes_of rfl rfl rfl rfl) H_require_reads (hr.mono (by decide)) (pua_cons (pu_v 0) (pua_cons (pu_v 1) pua_nil))) (puxs_of (puss_one (pus_ret (pu_and (pu_funH H_are_marks_of (hr.mono (by decide)) (pua_cons (pu_v 1) (pua_cons (pu_v 2) pua_nil))) (pu_one (pu_funH H_do_cover_in (hr.mono (by decide)) (pua_cons (pu_v 0) (pua_cons (pu_v 1) (pua_cons (pu_v 2) pua_nil)))))))))), fun ds R RX hl h => h.2⟩
/-! ### are_apart -/
abbrev s_are_apart : Stmt := top 48
abbrev N_are_apart : List Str := ["held", "reads", "value"]
theorem sc_are_apart : FnScope N_are_apart ["held", "reads", "value"] (defScope s_are_apart) := ⟨rfl, rfl, rfl, by decide +kernel, rfl, by decide +kernel, by decide +kernel⟩
def W_are_apart : WSX := (xSeq (xCall P_require_reads (wCons (wVar 0) (wCons (wVar 1) wNil))) (fun _ => (wRet (wAnd (wFun P_are_marks_of (wCons (wVar 1) (wCons (wVar 2) wNil))) (wFun P_are_apart_in (wCons (wVar 0) (wCons (wVar 2) wNil)))))))
def P_are_apart : PX := fun ds R RX => ds.length = 3 ∧ W_are_apart RX (endD R) (startE 3 ds)
theorem has_are_apart (T : Tx P K mg) (H_are_apart_in : Has P w K mg base "are_apart_in" 1 ["held", "marks"] (spD K 2 P_are_apart_in)) (H_are_marks_of : Has P w K mg base "are_marks_of" 5 ["reads", "value"] (spD K 2 P_are_marks_of)) (H_require_reads : HasX P w K mg base "require_reads" 6 ["held", "reads"] (spX K mg 2 P_require_reads)) : HasX P w K mg base "are_apart" 7 ["held", "reads", "value"] (spX K mg 3 P_are_apart) := by
  refine has_xd (dvs := []) (T.d_are_apart) sc_are_apart rfl (fun F => F.bindsN fun _ _ _ _ _ _ us hl => match us, hl with | [_, _, _], _ => rfl) (fun f fd F cdv A outer s H E hr => ?_)
  have hu := hu_of hr
  have hu64 := hr.units
  have hu0 := hr.units0
  have hu20 := hu20_of hr.units
  exact ⟨W_are_apart, (puxs_cons (pux_call (takes_of rfl rfl rfl rfl) H_require_reads (hr.mono (by decide)) (pua_cons (pu_v 0) (pua_cons (pu_v 1) pua_nil))) (puxs_of (puss_one (pus_ret (pu_and (pu_funH H_are_marks_of (hr.mono (by decide)) (pua_cons (pu_v 1) (pua_cons (pu_v 2) pua_nil))) (pu_one (pu_funH H_are_apart_in (hr.mono (by decide)) (pua_cons (pu_v 0) (pua_cons (pu_v 2) pua_nil))))))))), fun ds R RX hl h => h.2⟩
/-! ### asks_or_marks -/
abbrev s_asks_or_marks : Stmt := top 49
abbrev N_asks_or_marks : List Str := ["held", "reads", "number", "found"]
theorem sc_asks_or_marks : FnScope N_asks_or_marks ["held", "reads", "number"] (defScope s_asks_or_marks) := ⟨rfl, rfl, rfl, by decide +kernel, rfl, by decide +kernel, by decide +kernel⟩
def W_asks_or_marks : WSX := (xSeq (xCall P_require_number (wCons (wVar 0) (wCons (wVar 1) (wCons (wVar 2) wNil)))) (fun _ => (wSeq (wSet 3 (wFz (wFun P_asks_in (wCons (wVar 0) (wCons (wVar 1) wNil))))) (wRet (wTup (wCons (wIf (wB (wBin (fB fun i j => decide (i ≤ j)) (wCall fLen (wCons (wVar 3) wNil)) (wVar 2))) (wC (.str "asks")) (wC (.str "marks"))) (wCons (wVar 3) wNil)))))))
def P_asks_or_marks : PX := fun ds R RX => ds.length = 3 ∧ W_asks_or_marks RX (endD R) (startE 4 ds)
theorem has_asks_or_marks (T : Tx P K mg) (H_asks_in : Has P w K mg base "asks_in" 1 ["held", "reads"] (spD K 2 P_asks_in)) (H_require_number : HasX P w K mg base "require_number" 7 ["held", "reads", "number"] (spX K mg 3 P_require_number)) : HasX P w K mg base "asks_or_marks" 8 ["held", "reads", "number"] (spX K mg 3 P_asks_or_marks) := by
  refine has_xd (dvs := []) (T.d_asks_or_marks) sc_asks_or_marks rfl (fun F => F.bindsN fun _ _ _ _ _ _ us hl => match us, hl with | [_, _, _], _ => rfl) (fun f fd F cdv A outer s H E hr => ?_)
  have hu := hu_of hr
  have hu64 := hr.units
  have hu0 := hr.units0
  have hu20 := hu20_of hr.units
  exact ⟨W_asks_or_marks, (puxs_cons (pux_call (takes_of rfl rfl rfl rfl) H_require_number (hr.mono (by decide)) (pua_cons (pu_v 0) (pua_cons (pu_v 1) (pua_cons (pu_v 2) pua_nil)))) (puxs_of (puss_cons (pus_set 3 (puv_fz (pu_funH H_asks_in (hr.mono (by decide)) (pua_cons (pu_v 0) (pua_cons (pu_v 1) pua_nil)))) sc_asks_or_marks.nd) (puss_one (pus_ret (pu_tup (pua_cons (pu_if (put_cmp op_le sr_b (pu_blt (call_len) sc_len rfl T.b_len bb_len (pua_cons (pu_v 3) pua_nil)) (pu_v 2)) (pu_gs rfl T.c_ASKS) (pu_gs rfl T.c_MARKS)) (pua_cons (pu_v 3) pua_nil)))))))), fun ds R RX hl h => h.2⟩
/-! ### is_asks_or_marks -/
abbrev s_is_asks_or_marks : Stmt := top 50
abbrev N_is_asks_or_marks : List Str := ["held", "reads", "number", "value"]
theorem sc_is_asks_or_marks : FnScope N_is_asks_or_marks ["held", "reads", "number", "value"] (defScope s_is_asks_or_marks) := ⟨rfl, rfl, rfl, by decide +kernel, rfl, by decide +kernel, by decide +kernel⟩
def W_is_asks_or_marks : WSX := (xSeq (xCall P_require_number (wCons (wVar 0) (wCons (wVar 1) (wCons (wVar 2) wNil)))) (fun _ => (wSeq (wIfS (wOrT (wNotT (wB (wIs isTuple (wVar 3)))) (wOrT (wB (wBin fNeS (wCall fLen (wCons (wVar 3) wNil)) (wC (.int 2)))) (wNotT (wB (wIs isStr (wBin fIx (wVar 3) (wC (.int 0)))))))) (wRet (wC (.bool false))) wNx) (wSeq (wIfS (wNotT (wB (wFun P_are_marks_of (wCons (wVar 1) (wCons (wBin fIx (wVar 3) (wC (.int 1))) wNil))))) (wRet (wC (.bool false))) wNx) (wSeq (wIfS (wB (wBin fEqS (wBin fIx (wVar 3) (wC (.int 0))) (wC (.str "asks")))) (wRet (wAnd (wBin (fB fun i j => decide (i ≤ j)) (wCall fLen (wCons (wBin fIx (wVar 3) (wC (.int 1))) wNil)) (wVar 2)) (wFun P_do_cover_in (wCons (wVar 0) (wCons (wVar 1) (wCons (wBin fIx (wVar 3) (wC (.int 1))) wNil)))))) wNx) (wRet (wAnd (wBin fEqS (wBin fIx (wVar 3) (wC (.int 0))) (wC (.str "marks"))) (wAnd (wBin (fB fun i j => decide (j < i)) (wCall fLen (wCons (wBin fIx (wVar 3) (wC (.int 1))) wNil)) (wVar 2)) (wFun P_are_apart_in (wCons (wVar 0) (wCons (wBin fIx (wVar 3) (wC (.int 1))) wNil)))))))))))
def P_is_asks_or_marks : PX := fun ds R RX => ds.length = 4 ∧ W_is_asks_or_marks RX (endD R) (startE 4 ds)
theorem has_is_asks_or_marks (T : Tx P K mg) (H_are_apart_in : Has P w K mg base "are_apart_in" 1 ["held", "marks"] (spD K 2 P_are_apart_in)) (H_are_marks_of : Has P w K mg base "are_marks_of" 5 ["reads", "value"] (spD K 2 P_are_marks_of)) (H_do_cover_in : Has P w K mg base "do_cover_in" 1 ["held", "reads", "asks"] (spD K 3 P_do_cover_in)) (H_require_number : HasX P w K mg base "require_number" 7 ["held", "reads", "number"] (spX K mg 3 P_require_number)) : HasX P w K mg base "is_asks_or_marks" 8 ["held", "reads", "number", "value"] (spX K mg 4 P_is_asks_or_marks) := by
  refine has_xd (dvs := []) (T.d_is_asks_or_marks) sc_is_asks_or_marks rfl (fun F => F.bindsN fun _ _ _ _ _ _ us hl => match us, hl with | [_, _, _, _], _ => rfl) (fun f fd F cdv A outer s H E hr => ?_)
  have hu := hu_of hr
  have hu64 := hr.units
  have hu0 := hr.units0
  have hu20 := hu20_of hr.units
  exact ⟨W_is_asks_or_marks, (puxs_cons (pux_call (takes_of rfl rfl rfl rfl) H_require_number (hr.mono (by decide)) (pua_cons (pu_v 0) (pua_cons (pu_v 1) (pua_cons (pu_v 2) pua_nil)))) (puxs_of (puss_cons (pus_if (put_w (puw_or (put_not (put_val (pu_is isk_tuple rfl T.b_isinstance bb_isinstance rfl T.b_tuple bb_tuple (pu_v 3)))) (puw_or (put_cmp op_ne sr_ne (pu_blt (call_len) sc_len rfl T.b_len bb_len (pua_cons (pu_v 3) pua_nil)) (pu_gi rfl T.c_PAIR)) (puw_or1 (put_not (put_val (pu_is isk_str rfl T.b_isinstance bb_isinstance rfl T.b_str bb_str (pu_ix (pu_v 3) pu_int)))))))) (puss_one (pus_ret pu_bl)) puss_nil) (puss_cons (pus_if (put_not (put_val (pu_funH H_are_marks_of (hr.mono (by decide)) (pua_cons (pu_v 1) (pua_cons (pu_ix (pu_v 3) pu_int) pua_nil))))) (puss_one (pus_ret pu_bl)) puss_nil) (puss_cons (pus_if (put_cmp op_eq sr_eq (pu_ix (pu_v 3) pu_int) (pu_gs rfl T.c_ASKS)) (puss_one (pus_ret (pu_and (pu_cmp op_le sr_b (pu_blt (call_len) sc_len rfl T.b_len bb_len (pua_cons (pu_ix (pu_v 3) pu_int) pua_nil)) (pu_v 2)) (pu_one (pu_funH H_do_cover_in (hr.mono (by decide)) (pua_cons (pu_v 0) (pua_cons (pu_v 1) (pua_cons (pu_ix (pu_v 3) pu_int) pua_nil)))))))) puss_nil) (puss_one (pus_ret (pu_and (pu_cmp op_eq sr_eq (pu_ix (pu_v 3) pu_int) (pu_gs rfl T.c_MARKS)) (pu_and (pu_cmp op_gt sr_b (pu_blt (call_len) sc_len rfl T.b_len bb_len (pua_cons (pu_ix (pu_v 3) pu_int) pua_nil)) (pu_v 2)) (pu_one (pu_funH H_are_apart_in (hr.mono (by decide)) (pua_cons (pu_v 0) (pua_cons (pu_ix (pu_v 3) pu_int) pua_nil))))))))))))), fun ds R RX hl h => h.2⟩
/-! ### put_at -/
abbrev s_put_at : Stmt := top 51
abbrev N_put_at : List Str := ["ends", "reading", "ceiling", "end"]
theorem sc_put_at : FnScope N_put_at ["ends", "reading", "ceiling"] (defScope s_put_at) := ⟨rfl, rfl, rfl, by decide +kernel, rfl, by decide +kernel, by decide +kernel⟩
def W_put_at : WSX := (xSeq (xIf (wOrT (wNotT (wB (wIs isTuple (wVar 0)))) (wOrT (wB (wBin (fB fun i j => decide (j < i)) (wCall fLen (wCons (wVar 0) wNil)) (wC (.int 240)))) (wNotT (wB (wCall (fAll fun bs => bs.all id) (wCons (wLc (wiTup (wVar 0)) (wgName 3) wYes (wFun P_is_tick (wCons (wVar 3) wNil)) [3]) wNil)))))) (xRaiseM "InvalidOperation") (fun _ => wNx)) (xSeq (xCall P_require_tick (wCons (wVar 1) wNil)) (xSeq (xIf (wAndT (wB (wBin fNotN (wVar 2) (wC .none))) (wNotT (wB (wFun P_is_tick (wCons (wVar 2) wNil))))) (xRaiseV "InvalidNumber" "given" (wVar 2)) (fun _ => wNx)) (fun _ => (wRet (wCall fMaxL (wCons (wLst (wCons (wVar 1) (wStar (wLc (wiTup (wVar 0)) (wgName 3) wYes (wBin (fI fun i j => i + j) (wVar 3) (wC (.int 1))) [3]) (wStar (wIf (wB (wBin fIsN (wVar 2) (wC .none))) (wLst wNil) (wLst (wCons (wBin (fI fun i j => i + j) (wVar 2) (wC (.int 1))) wNil))) wNil)))) wNil)))))))
def P_put_at : PX := fun ds R RX => ds.length = 3 ∧ W_put_at RX (endD R) (startE 4 ds)
theorem bn_put {f : Addr} {fd : FuncData} (F : FnPD K "put_at" s_put_at [.non] f fd) : Binds K fd ["ends", "reading", "ceiling"] [] := by
  obtain ⟨ds, v, b⟩ := FunD.binds1 (ps := ["ends", "reading", "ceiling"]) F 3 1 (by simp) rfl (fun T kV doc pm an cdv ct us its h1 h2 => match us, h1, its, h2 with | [_, _, _], _, [_], _ => ⟨_, rfl, rfl⟩)
  cases v
  exact b
theorem has_put_at (T : Tx P K mg) (H_is_tick : Has P w K mg base "is_tick" 3 ["value"] (spD K 1 P_is_tick)) (H_require_tick : HasX P w K mg base "require_tick" 4 ["value"] (spX K mg 1 P_require_tick)) : HasX P w K mg base "put_at" 5 ["ends", "reading", "ceiling"] (spX K mg 3 P_put_at) := by
  refine has_xd (dvs := [.non]) (T.d_put_at) sc_put_at rfl (fun F => bn_put F) (fun f fd F cdv A outer s H E hr => ?_)
  have hu := hu_of hr
  have hu64 := hr.units
  have hu0 := hr.units0
  have hu20 := hu20_of hr.units
  exact ⟨W_put_at, (puxs_cons (pux_if (put_w (puw_or (put_not (put_val (pu_is isk_tuple rfl T.b_isinstance bb_isinstance rfl T.b_tuple bb_tuple (pu_v 0)))) (puw_or (put_cmp op_gt sr_b (pu_blt (call_len) sc_len rfl T.b_len bb_len (pua_cons (pu_v 0) pua_nil)) (pu_gi rfl T.c_MAX_ENDS)) (puw_or1 (put_not (put_val (pu_blt (cr_all rfl) sc_all rfl T.b_all bb_all (pua_cons (pu_lc (own := [("end", 3)]) sc_put_at.nd (blkOk_by (N := N_put_at) (sc := defScope s_put_at) (by decide +kernel)) (pui_tup (pu_v 0)) (fun _ _ _ _ _ => (pug_name 3 sc_put_at.nd)) (fun _ _ _ _ _ => puts_nil) (fun _ _ _ _ _ => (pu_funH H_is_tick (hr.mono (by decide)) (pua_cons (pu_v 3) pua_nil)))) pua_nil)))))))) (puxs_one (pux_raiseM (takes_of rfl rfl rfl rfl) T.x_InvalidOperation)) (puxs_of puss_nil)) (puxs_cons (pux_call (takes_of rfl rfl rfl rfl) H_require_tick (hr.mono (by decide)) (pua_cons (pu_v 1) pua_nil)) (puxs_cons (pux_if (put_w (puw_and (put_cmp op_notN sr_notN (pu_v 2) pu_non) (puw_and1 (put_not (put_val (pu_funH H_is_tick (hr.mono (by decide)) (pua_cons (pu_v 2) pua_nil))))))) (puxs_one (pux_raiseV (k := 0) (takes_of rfl rfl rfl rfl) T.x_InvalidNumber T.b_super (hr.mono (by decide)) (pu_v 2))) (puxs_of puss_nil)) (puxs_of (puss_one (pus_ret (pu_blt (cr_max rfl) sc_maxL rfl T.b_max bb_max (pua_cons (pu_lst (pua_cons (pu_v 1) (pua_star (pu_lc (own := [("end", 3)]) sc_put_at.nd (blkOk_by (N := N_put_at) (sc := defScope s_put_at) (by decide +kernel)) (pui_tup (pu_v 0)) (fun _ _ _ _ _ => (pug_name 3 sc_put_at.nd)) (fun _ _ _ _ _ => puts_nil) (fun _ _ _ _ _ => (pu_op op_add sr_i (pu_v 3) pu_int))) (pua_star (pu_if (put_cmp op_isN sr_isN (pu_v 2) pu_non) (pu_lst pua_nil) (pu_lst (pua_cons (pu_op op_add sr_i (pu_v 2) pu_int) pua_nil))) pua_nil)))) pua_nil)))))))), fun ds R RX hl h => h.2⟩
end
end AF

set_option Elab.async false
set_option linter.all false
set_option maxRecDepth 100000
set_option maxHeartbeats 4000000
namespace AF
open PySem PySem.Spec PyProof.Rows L2
section
variable {P : Program} {w : World} {K : PySem.W.Frag} {mg : Str → Option Value} {base : Heap}
/-! ### _law_met -/
abbrev s__law_met : Stmt := top 56
theorem met_f (T : Tx P K mg) : MetF K mg "_law_met" s__law_met "_law_call" "error" "InvalidNumber" "InvalidOperation" "given" "operation" "fine" where
  d := T.d__law_met
  sc := ⟨rfl, rfl, rfl, by decide +kernel, rfl, by decide +kernel, by decide +kernel⟩
  bi := (fun F => F.bindsN fun _ _ _ _ _ _ us hl => match us, hl with | [_], _ => rfl)
  bd := ⟨_, _, _, _, _, _, _, _, _, _, _, _, _, _, _, _, _, _, _, rfl⟩
  gn := by decide +kernel
  gm := by decide +kernel
  gr := by decide +kernel
  le := by decide +kernel
  va := Or.inl (by decide +kernel)
  ne := by decide
  dn := by decide
  dm := by decide
  de := by decide
  ce := by decide
  da := by decide
  ca := by decide
  mr := T.b_repr
  cls := T.met
/-! ### _law_dice -/
abbrev s__law_dice : Stmt := top 53
abbrev N__law_dice : List Str := ["_law_script", "_law_spot", "_law_cell", "_law_left"]
theorem sc__law_dice : FnScope N__law_dice ["_law_script", "_law_spot"] (defScope s__law_dice) := ⟨rfl, rfl, rfl, by decide +kernel, rfl, by decide +kernel, by decide +kernel⟩
def W__law_dice : (List D → Env' → Prop) → Env' → Prop := (wlSeq (wSet 2 (wFz (wIf (wB (wBin (fB fun i j => decide (i < j)) (wVar 1) (wCall fLen (wCons (wVar 0) wNil)))) (wCall fInt (wCons (wBin fIx (wVar 0) (wVar 1)) wNil)) (wBin (fI fun i j => i + j) (wBin (fIC CMulW fun i j => i * j) (wC (.int 83)) (wVar 1)) (wC (.int 57)))))) (wlSeq (wSet 3 (wFz (wBin (fIC (fun _ j => 0 < j) fun i j => i % j) (wCall (f2I fun i j => if j > i then j else i) (wCons (wC (.int 0)) (wCons (wBin (fI fun i j => i - j) (wCall (f1I fun i => if i < 0 then -i else i) (wCons (wVar 2) wNil)) (wBin (fIC CPow fun i j => i ^ j.toNat) (wC (.int 10)) (wC (.int 16)))) wNil))) (wBin (fIC CMulW fun i j => i * j) (wBin (fIC CPow fun i j => i ^ j.toNat) (wC (.int 10)) (wC (.int 58))) (wBin (fIC CPow fun i j => i ^ j.toNat) (wC (.int 10)) (wC (.int 60))))))) (wlRet (wCons (wVar 3) (wCons (wBin (fI fun i j => i + j) (wBin (fI fun i j => i + j) (wBin (fI fun i j => i + j) (wBin (fIC CMulW fun i j => i * j) (wBin (fIC (fun _ j => 0 < j) fun i j => i % j) (wCall (f1I fun i => if i < 0 then -i else i) (wCons (wVar 2) wNil)) (wC (.int 1152921504606846883))) (wC (.int 97))) (wBin (fIC CMulW fun i j => i * j) (wC (.int 1009)) (wVar 1))) (wBin (fIC CMulW fun i j => i * j) (wC (.int 53)) (wCall fInt (wCons (wBin (fB fun i j => decide (i < j)) (wVar 2) (wC (.int 0))) wNil)))) (wC (.int 29))) (wCons (wC (.int 0)) wNil))))))
def P__law_dice : PL' := fun ds R => ds.length = 2 ∧ W__law_dice (fun es _ => R es) (startE 4 ds)
theorem has__law_dice (T : Tx P K mg)  : Has P w K mg base "_law_dice" 1 ["_law_script", "_law_spot"] (spL K 2 P__law_dice) := by
  refine has_l (T.d__law_dice) sc__law_dice rfl (fun F => F.bindsN fun _ _ _ _ _ _ us hl => match us, hl with | [_, _], _ => rfl) (fun f fd F cdv A outer s H E hr => ?_)
  have hu := hu_of hr
  have hu64 := hr.units
  have hu0 := hr.units0
  have hu20 := hu20_of hr.units
  exact ⟨W__law_dice, (pul_seq (pus_set 2 (puv_fz (pu_if (put_cmp op_lt sr_b (pu_v 1) (pu_blt (call_len) sc_len rfl T.b_len bb_len (pua_cons (pu_v 0) pua_nil))) (pu_ty (call_int1) sc_int rfl T.b_int bb_int (pua_cons (pu_ix (pu_v 0) (pu_v 1)) pua_nil)) (pu_op op_add sr_i (pu_op op_mulW sr_iC pu_int (pu_v 1)) pu_int))) sc__law_dice.nd) (pul_seq (pus_set 3 (puv_fz (pu_op op_mod sr_iC (pu_blt (call_max2 rfl) sc_2I rfl T.b_max bb_max (pua_cons pu_int (pua_cons (pu_op op_sub sr_i (pu_blt (call_abs) sc_1I rfl T.b_abs bb_abs (pua_cons (pu_v 2) pua_nil)) (pu_op op_pow sr_iC pu_int pu_int)) pua_nil))) (pu_op op_mulW sr_iC (pu_op op_pow sr_iC pu_int pu_int) (pu_op op_pow sr_iC pu_int pu_int)))) sc__law_dice.nd) (pul_ret (pua_cons (pu_v 3) (pua_cons (pu_op op_add sr_i (pu_op op_add sr_i (pu_op op_add sr_i (pu_op op_mulW sr_iC (pu_op op_mod sr_iC (pu_blt (call_abs) sc_1I rfl T.b_abs bb_abs (pua_cons (pu_v 2) pua_nil)) pu_int) pu_int) (pu_op op_mulW sr_iC pu_int (pu_v 1))) (pu_op op_mulW sr_iC pu_int (pu_ty (call_int1) sc_int rfl T.b_int bb_int (pua_cons (pu_cmp op_lt sr_b (pu_v 2) pu_int) pua_nil)))) pu_int) (pua_cons pu_int pua_nil)))))), fun ds R hl h => h.2⟩
/-! ### _law_roll -/
abbrev s__law_roll : Stmt := top 54
abbrev N__law_roll : List Str := ["_law_dice_here", "_law_most", "_law_found", "_law_one", "_law_two"]
theorem sc__law_roll : FnScope N__law_roll ["_law_dice_here", "_law_most"] (defScope s__law_roll) := ⟨rfl, rfl, rfl, by decide +kernel, rfl, by decide +kernel, by decide +kernel⟩
def W__law_roll : WS := (wSeq (wIfS (wB (wBin (fB fun i j => decide (j < i)) (wBin fIx (wVar 0) (wC (.int 0))) (wC (.int 0)))) (wSeq (wSet 2 (wFz (wBin (fIC (fun _ j => 0 < j) fun i j => i % j) (wCall fInt (wCons (wBin fIx (wVar 0) (wC (.int 0))) wNil)) (wVar 1)))) (wSeq (wDiceSet 0 0 (wBin (fIC CDivW fun i j => i / j) (wBin fIx (wVar 0) (wC (.int 0))) (wVar 1))) (wRet (wVar 2)))) wNx) (wSeq (wDiceSet 0 2 (wBin (fI fun i j => i + j) (wBin fIx (wVar 0) (wC (.int 2))) (wC (.int 1)))) (wSeq (wSet 3 (wFz (wBin (fIC (fun _ j => 0 < j) fun i j => i % j) (wCall fInt (wCons (wBin (fI fun i j => i + j) (wBin fIx (wVar 0) (wC (.int 1))) (wBin (fIC CMulW fun i j => i * j) (wC (.int 68718953)) (wBin fIx (wVar 0) (wC (.int 2))))) wNil)) (wC (.int 2305843009213693487))))) (wSeq (wSet 4 (wFz (wBin (fI fun i j => i + j) (wBin (fIC CMulW fun i j => i * j) (wBin (fIC (fun _ j => 0 < j) fun i j => i % j) (wCall fInt (wCons (wBin (fI fun i j => i + j) (wBin (fIC CMulW fun i j => i * j) (wVar 3) (wVar 3)) (wBin (fIC CMulW fun i j => i * j) (wC (.int 83)) (wBin fIx (wVar 0) (wC (.int 2))))) wNil)) (wC (.int 2305843009213693253))) (wC (.int 7368787))) (wVar 3)))) (wRet (wBin (fIC (fun _ j => 0 < j) fun i j => i % j) (wCall fInt (wCons (wBin (fIC CDivW fun i j => i / j) (wVar 4) (wC (.int 65563))) wNil)) (wVar 1)))))))
def P__law_roll : PO' := fun es ds R => ds.length = 1 ∧ ∀ a, W__law_roll (endO a R) (startO 5 a es ds)
theorem has__law_roll (T : Tx P K mg)  : Has P w K mg base "_law_roll" 1 ["_law_dice_here", "_law_most"] (spO K 2 P__law_roll) := by
  refine has_o (T.d__law_roll) sc__law_roll rfl (fun F => F.bindsN fun _ _ _ _ _ _ us hl => match us, hl with | [_, _], _ => rfl) (fun f fd F cdv A outer s H E hr => ?_)
  have hu := hu_of hr
  have hu64 := hr.units
  have hu0 := hr.units0
  have hu20 := hu20_of hr.units
  exact ⟨W__law_roll, (puss_cons (pus_if (put_cmp op_gt sr_b (pu_ix (pu_v 0) pu_int) pu_int) (puss_cons (pus_set 2 (puv_fz (pu_op op_mod sr_iC (pu_ty (call_int1) sc_int rfl T.b_int bb_int (pua_cons (pu_ix (pu_v 0) pu_int) pua_nil)) (pu_v 1))) sc__law_roll.nd) (puss_cons (pus_diceset 0 (pu_op op_fdivW sr_iC (pu_ix (pu_v 0) pu_int) (pu_v 1))) (puss_one (pus_ret (pu_v 2))))) puss_nil) (puss_cons (pus_diceset 0 (pu_op op_add sr_i (pu_ix (pu_v 0) pu_int) pu_int)) (puss_cons (pus_set 3 (puv_fz (pu_op op_mod sr_iC (pu_ty (call_int1) sc_int rfl T.b_int bb_int (pua_cons (pu_op op_add sr_i (pu_ix (pu_v 0) pu_int) (pu_op op_mulW sr_iC pu_int (pu_ix (pu_v 0) pu_int))) pua_nil)) pu_int)) sc__law_roll.nd) (puss_cons (pus_set 4 (puv_fz (pu_op op_add sr_i (pu_op op_mulW sr_iC (pu_op op_mod sr_iC (pu_ty (call_int1) sc_int rfl T.b_int bb_int (pua_cons (pu_op op_add sr_i (pu_op op_mulW sr_iC (pu_v 3) (pu_v 3)) (pu_op op_mulW sr_iC pu_int (pu_ix (pu_v 0) pu_int))) pua_nil)) pu_int) pu_int) (pu_v 3))) sc__law_roll.nd) (puss_one (pus_ret (pu_op op_mod sr_iC (pu_ty (call_int1) sc_int rfl T.b_int bb_int (pua_cons (pu_op op_fdivW sr_iC (pu_v 4) pu_int) pua_nil)) (pu_v 1)))))))), fun a es ds R hl h => h.2 a⟩
/-! ### _law_pick -/
abbrev s__law_pick : Stmt := top 55
abbrev N__law_pick : List Str := ["_law_dice_here", "_law_items"]
theorem sc__law_pick : FnScope N__law_pick ["_law_dice_here", "_law_items"] (defScope s__law_pick) := ⟨rfl, rfl, rfl, by decide +kernel, rfl, by decide +kernel, by decide +kernel⟩
def W__law_pick : WS := (wRet (wBin fIx (wVar 1) (wFunO P__law_roll 0 (wCons (wCall fLen (wCons (wVar 1) wNil)) wNil))))
def P__law_pick : PO' := fun es ds R => ds.length = 1 ∧ ∀ a, W__law_pick (endO a R) (startO 2 a es ds)
theorem has__law_pick (T : Tx P K mg) (H__law_roll : Has P w K mg base "_law_roll" 1 ["_law_dice_here", "_law_most"] (spO K 2 P__law_roll)) : Has P w K mg base "_law_pick" 2 ["_law_dice_here", "_law_items"] (spO K 2 P__law_pick) := by
  refine has_o (T.d__law_pick) sc__law_pick rfl (fun F => F.bindsN fun _ _ _ _ _ _ us hl => match us, hl with | [_, _], _ => rfl) (fun f fd F cdv A outer s H E hr => ?_)
  have hu := hu_of hr
  have hu64 := hr.units
  have hu0 := hr.units0
  have hu20 := hu20_of hr.units
  exact ⟨W__law_pick, (puss_one (pus_ret (pu_ix (pu_v 1) (pu_funOH 0 H__law_roll (hr.mono (by decide)) (pua_cons (pu_blt (call_len) sc_len rfl T.b_len bb_len (pua_cons (pu_v 1) pua_nil)) pua_nil))))), fun a es ds R hl h => h.2 a⟩
/-! ### _law_odd -/
abbrev s__law_odd : Stmt := top 57
abbrev N__law_odd : List Str := ["_law_dice_here", "_law_least", "_law_most"]
theorem sc__law_odd : FnScope N__law_odd ["_law_dice_here", "_law_least", "_law_most"] (defScope s__law_odd) := ⟨rfl, rfl, rfl, by decide +kernel, rfl, by decide +kernel, by decide +kernel⟩
def W__law_odd : WS := (wRet (wFunO P__law_pick 0 (wCons (wLst (wCons (wC .none) (wCons (wBin (fI fun i j => i - j) (wVar 1) (wC (.int 1))) (wCons (wBin (fI fun i j => i + j) (wVar 2) (wC (.int 1))) (wCons (wC (.bool true)) (wCons (wCall fStr (wCons (wVar 1) wNil)) (wCons (wTup (wCons (wVar 1) wNil)) (wCons (wBin (fIC CPow fun i j => i ^ j.toNat) (wC (.int 10)) (wC (.int 62))) (wCons (wLst (wCons (wVar 1) wNil)) (wCons (wC empD) wNil)))))))))) wNil)))
def P__law_odd : PO' := fun es ds R => ds.length = 2 ∧ ∀ a, W__law_odd (endO a R) (startO 3 a es ds)
theorem has__law_odd (T : Tx P K mg) (H__law_pick : Has P w K mg base "_law_pick" 2 ["_law_dice_here", "_law_items"] (spO K 2 P__law_pick)) : Has P w K mg base "_law_odd" 3 ["_law_dice_here", "_law_least", "_law_most"] (spO K 3 P__law_odd) := by
  refine has_o (T.d__law_odd) sc__law_odd rfl (fun F => F.bindsN fun _ _ _ _ _ _ us hl => match us, hl with | [_, _, _], _ => rfl) (fun f fd F cdv A outer s H E hr => ?_)
  have hu := hu_of hr
  have hu64 := hr.units
  have hu0 := hr.units0
  have hu20 := hu20_of hr.units
  exact ⟨W__law_odd, (puss_one (pus_ret (pu_funOH 0 H__law_pick (hr.mono (by decide)) (pua_cons (pu_lst (pua_cons pu_non (pua_cons (pu_op op_sub sr_i (pu_v 1) pu_int) (pua_cons (pu_op op_add sr_i (pu_v 2) pu_int) (pua_cons pu_bl (pua_cons (pu_ty (call_str_int) sc_str rfl T.b_str bb_str (pua_cons (pu_v 1) pua_nil)) (pua_cons (pu_tup (pua_cons (pu_v 1) pua_nil)) (pua_cons (pu_op op_pow sr_iC pu_int pu_int) (pua_cons (pu_lst (pua_cons (pu_v 1) pua_nil)) (pua_cons pu_emp pua_nil)))))))))) pua_nil)))), fun a es ds R hl h => h.2 a⟩
end
end AF

set_option Elab.async false
set_option linter.all false
set_option maxRecDepth 100000
set_option maxHeartbeats 4000000
namespace AF
open PySem PySem.Spec PyProof.Rows L2
section
variable {P : Program} {w : World} {K : PySem.W.Frag} {mg : Str → Option Value} {base : Heap}
/-! ### _law_numbers_right -/
abbrev s__law_numbers_right : Stmt := top 58
abbrev N__law_numbers_right : List Str := ["_law_dice_here", "_law_spread", "_law_term", "_law_depth", "_law_units", "_law_told", "_law_one", "<tb>"]
theorem sc__law_numbers_right : FnScope N__law_numbers_right ["_law_dice_here"] (defScope s__law_numbers_right) := ⟨rfl, rfl, rfl, by decide +kernel, rfl, by decide +kernel, by decide +kernel⟩
def W__law_numbers_right (P1 : Addr) : WS := (wSeq (wAsg (wTup (wCons (wFunO P__law_odd 0 (wCons (wC (.int 1)) (wCons (wC (.int 6)) wNil))) (wCons (wFunO P__law_odd 0 (wCons (wC (.int 1)) (wCons (wC (.int 200)) wNil))) (wCons (wFunO P__law_odd 0 (wCons (wC (.int 1)) (wCons (wC (.int 6)) wNil))) (wCons (wFunO P__law_odd 0 (wCons (wC (.int 1)) (wCons (wC (.int 200)) wNil))) wNil))))) (wgTup 4 (wgCons (wgName 1) (wgCons (wgName 2) (wgCons (wgName 3) (wgCons (wgName 4) wgNil)))))) (wSeq (wSet 5 (wOl (wCons (wMet 7 P1 (("_law_numbers_right" ++ ".<locals>.") ++ "<lambda>") "InvalidNumber" "InvalidOperation" "given" "operation" "fine" (lCall P_held_at (wCons (wVar 1) (wCons (wVar 2) (wCons (wVar 3) wNil))))) wNil))) (wSeq (wDrop (wApp 5 (wMet 7 P1 (("_law_numbers_right" ++ ".<locals>.") ++ "<lambda>") "InvalidNumber" "InvalidOperation" "given" "operation" "fine" (lCall P_held_at (wCons (wC (.int 2)) (wCons (wVar 2) (wCons (wVar 3) wNil))))))) (wSeq (wDrop (wApp 5 (wMet 7 P1 (("_law_numbers_right" ++ ".<locals>.") ++ "<lambda>") "InvalidNumber" "InvalidOperation" "given" "operation" "fine" (lCall P_held_at (wCons (wC (.int 2)) (wCons (wC (.int 200)) (wCons (wVar 3) wNil))))))) (wSeq (wDrop (wApp 5 (wMet 7 P1 (("_law_numbers_right" ++ ".<locals>.") ++ "<lambda>") "InvalidNumber" "InvalidOperation" "given" "operation" "fine" (lCall P_greatest_depth (wCons (wVar 1) (wCons (wVar 2) wNil)))))) (wSeq (wDrop (wApp 5 (wMet 7 P1 (("_law_numbers_right" ++ ".<locals>.") ++ "<lambda>") "InvalidNumber" "InvalidOperation" "given" "operation" "fine" (lCall P_greatest_depth (wCons (wC (.int 6)) (wCons (wVar 2) wNil)))))) (wSeq (wDrop (wApp 5 (wMet 7 P1 (("_law_numbers_right" ++ ".<locals>.") ++ "<lambda>") "InvalidNumber" "InvalidOperation" "given" "operation" "fine" (lCall P_least_term (wCons (wVar 1) (wCons (wVar 3) (wCons (wVar 4) wNil))))))) (wSeq (wDrop (wApp 5 (wMet 7 P1 (("_law_numbers_right" ++ ".<locals>.") ++ "<lambda>") "InvalidNumber" "InvalidOperation" "given" "operation" "fine" (lCall P_least_term (wCons (wC (.int 1)) (wCons (wVar 3) (wCons (wVar 4) wNil))))))) (wSeq (wDrop (wApp 5 (wMet 7 P1 (("_law_numbers_right" ++ ".<locals>.") ++ "<lambda>") "InvalidNumber" "InvalidOperation" "given" "operation" "fine" (lCall P_least_term (wCons (wC (.int 1)) (wCons (wC (.int 6)) (wCons (wVar 4) wNil))))))) (wRet (wBin fEqD (wVar 5) (wLc (wiTup (wTup (wCons (wVar 1) (wCons (wVar 2) (wCons (wVar 3) (wCons (wVar 1) (wCons (wVar 2) (wCons (wVar 1) (wCons (wVar 3) (wCons (wVar 4) wNil)))))))))) (wgName 6) wYes (wCall fRepr (wCons (wVar 6) wNil)) [6]))))))))))))
def P__law_numbers_right (P1 : Addr) : PGd := fun es R => ∀ a, W__law_numbers_right P1 (endG a [(7, P1, (("_law_numbers_right" ++ ".<locals>.") ++ "<lambda>"))] R) (ghostE [(7, P1, (("_law_numbers_right" ++ ".<locals>.") ++ "<lambda>"))] (startO 8 a es []))
theorem has__law_numbers_right (T : Tx P K mg) (M : MetF K mg "_law_met" (top 56) "_law_call" "error" "InvalidNumber" "InvalidOperation" "given" "operation" "fine") {P1 : Addr} (TB : ∀ f fd, mg "_law_numbers_right" = some (.ref f) → FnP K "_law_numbers_right" s__law_numbers_right f fd → ∃ c, fd.code = .ref c ∧ LamX.TabB base mg c P1) (H__law_odd : Has P w K mg base "_law_odd" 3 ["_law_dice_here", "_law_least", "_law_most"] (spO K 3 P__law_odd)) (H_greatest_depth : ∀ base : Heap, HasX P w K mg base "greatest_depth" 5 ["spread", "term"] (spX K mg 2 P_greatest_depth)) (H_held_at : ∀ base : Heap, HasX P w K mg base "held_at" 5 ["spread", "term", "depth"] (spX K mg 3 P_held_at)) (H_least_term : ∀ base : Heap, HasX P w K mg base "least_term" 5 ["spread", "depth", "units"] (spX K mg 3 P_least_term)) : HasG P w K mg base "_law_numbers_right" 30 ["_law_dice_here"] (spG K [(P1, (("_law_numbers_right" ++ ".<locals>.") ++ "<lambda>"))] (P__law_numbers_right P1)) := by
  refine has_g (T := [(7, P1, (("_law_numbers_right" ++ ".<locals>.") ++ "<lambda>"))]) (T.d__law_numbers_right) sc__law_numbers_right (fun F => F.bindsN fun _ _ _ _ _ _ us hl => match us, hl with | [_], _ => rfl) (fun t ht => by cases List.mem_singleton.mp ht; exact ⟨"<tb>", rfl, by unfold Vis; decide +kernel⟩) (fun a es => free1 (by decide) a es) (fun f fd Fm F A outer s H hgd0 hr => ?_)
  have hgd : (A.deeper (envOfC "_law_numbers_right" (defScope s__law_numbers_right) s.heap.objs.size f fd.code)).guards = some [] := guards_deeper hgd0
  obtain ⟨c0, hcd, tb⟩ := TB f fd Fm F
  have hu := hu_of hr
  have hu64 := hr.units
  have hu0 := hr.units0
  have hu20 := hu20_of hr.units
  exact ⟨W__law_numbers_right P1, (puss_cons (pus_asg (vs := [1, 2, 3, 4]) (pu_tup (pua_cons (pu_funOH 0 H__law_odd (hr.mono (by decide)) (pua_cons pu_int (pua_cons pu_int pua_nil))) (pua_cons (pu_funOH 0 H__law_odd (hr.mono (by decide)) (pua_cons pu_int (pua_cons pu_int pua_nil))) (pua_cons (pu_funOH 0 H__law_odd (hr.mono (by decide)) (pua_cons pu_int (pua_cons pu_int pua_nil))) (pua_cons (pu_funOH 0 H__law_odd (hr.mono (by decide)) (pua_cons pu_int (pua_cons pu_int pua_nil))) pua_nil))))) (pug_tup (pugs_cons (pug_name 1 sc__law_numbers_right.nd) (pugs_cons (pug_name 2 sc__law_numbers_right.nd) (pugs_cons (pug_name 3 sc__law_numbers_right.nd) (pugs_cons (pug_name 4 sc__law_numbers_right.nd) pugs_nil)))))) (puss_cons (pus_set 5 (puv_lst (pua_cons (pu_met (i := 7) (k := 20) M tb hcd rfl (hr.mono (by decide)) hgd (fun A outer s H E f c' hr => pe_bodyCall (takes_of rfl rfl rfl rfl) (H_held_at base) (hr.mono (by decide)) (pua_cons (pu_v 1) (pua_cons (pu_v 2) (pua_cons (pu_v 3) pua_nil)))) (LamX.lamS_by (sc := defScope s__law_numbers_right) (by decide +kernel))) pua_nil)) sc__law_numbers_right.nd) (puss_cons (pus_expr (pu_append 5 (pu_met (i := 7) (k := 20) M tb hcd rfl (hr.mono (by decide)) hgd (fun A outer s H E f c' hr => pe_bodyCall (takes_of rfl rfl rfl rfl) (H_held_at base) (hr.mono (by decide)) (pua_cons pu_int (pua_cons (pu_v 2) (pua_cons (pu_v 3) pua_nil)))) (LamX.lamS_by (sc := defScope s__law_numbers_right) (by decide +kernel))))) (puss_cons (pus_expr (pu_append 5 (pu_met (i := 7) (k := 20) M tb hcd rfl (hr.mono (by decide)) hgd (fun A outer s H E f c' hr => pe_bodyCall (takes_of rfl rfl rfl rfl) (H_held_at base) (hr.mono (by decide)) (pua_cons pu_int (pua_cons pu_int (pua_cons (pu_v 3) pua_nil)))) (LamX.lamS_by (sc := defScope s__law_numbers_right) (by decide +kernel))))) (puss_cons (pus_expr (pu_append 5 (pu_met (i := 7) (k := 20) M tb hcd rfl (hr.mono (by decide)) hgd (fun A outer s H E f c' hr => pe_bodyCall (takes_of rfl rfl rfl rfl) (H_greatest_depth base) (hr.mono (by decide)) (pua_cons (pu_v 1) (pua_cons (pu_v 2) pua_nil))) (LamX.lamS_by (sc := defScope s__law_numbers_right) (by decide +kernel))))) (puss_cons (pus_expr (pu_append 5 (pu_met (i := 7) (k := 20) M tb hcd rfl (hr.mono (by decide)) hgd (fun A outer s H E f c' hr => pe_bodyCall (takes_of rfl rfl rfl rfl) (H_greatest_depth base) (hr.mono (by decide)) (pua_cons pu_int (pua_cons (pu_v 2) pua_nil))) (LamX.lamS_by (sc := defScope s__law_numbers_right) (by decide +kernel))))) (puss_cons (pus_expr (pu_append 5 (pu_met (i := 7) (k := 20) M tb hcd rfl (hr.mono (by decide)) hgd (fun A outer s H E f c' hr => pe_bodyCall (takes_of rfl rfl rfl rfl) (H_least_term base) (hr.mono (by decide)) (pua_cons (pu_v 1) (pua_cons (pu_v 3) (pua_cons (pu_v 4) pua_nil)))) (LamX.lamS_by (sc := defScope s__law_numbers_right) (by decide +kernel))))) (puss_cons (pus_expr (pu_append 5 (pu_met (i := 7) (k := 20) M tb hcd rfl (hr.mono (by decide)) hgd (fun A outer s H E f c' hr => pe_bodyCall (takes_of rfl rfl rfl rfl) (H_least_term base) (hr.mono (by decide)) (pua_cons pu_int (pua_cons (pu_v 3) (pua_cons (pu_v 4) pua_nil)))) (LamX.lamS_by (sc := defScope s__law_numbers_right) (by decide +kernel))))) (puss_cons (pus_expr (pu_append 5 (pu_met (i := 7) (k := 20) M tb hcd rfl (hr.mono (by decide)) hgd (fun A outer s H E f c' hr => pe_bodyCall (takes_of rfl rfl rfl rfl) (H_least_term base) (hr.mono (by decide)) (pua_cons pu_int (pua_cons pu_int (pua_cons (pu_v 4) pua_nil)))) (LamX.lamS_by (sc := defScope s__law_numbers_right) (by decide +kernel))))) (puss_one (pus_ret (pu_cmp (op_eqD hu64) sr_eqD (pu_v 5) (pu_lc (own := [("_law_one", 6)]) sc__law_numbers_right.nd (blkOk_by (N := N__law_numbers_right) (sc := defScope s__law_numbers_right) (by decide +kernel)) (pui_tup (pu_tup (pua_cons (pu_v 1) (pua_cons (pu_v 2) (pua_cons (pu_v 3) (pua_cons (pu_v 1) (pua_cons (pu_v 2) (pua_cons (pu_v 1) (pua_cons (pu_v 3) (pua_cons (pu_v 4) pua_nil)))))))))) (fun _ _ _ _ _ => (pug_name 6 sc__law_numbers_right.nd)) (fun _ _ _ _ _ => puts_nil) (fun _ _ _ _ _ => (pu_blt (cr_repr hgd hu64) sc_repr rfl T.b_repr bb_repr (pua_cons (pu_v 6) pua_nil)))))))))))))))), fun a es R h => h a⟩
end
end AF

set_option Elab.async false
set_option linter.all false
set_option maxRecDepth 100000
set_option maxHeartbeats 4000000
namespace AF
open PySem PySem.Spec PyProof.Rows L2
section
variable {P : Program} {w : World} {K : PySem.W.Frag} {mg : Str → Option Value} {base : Heap}
/-! ### _law_reads_right -/
abbrev s__law_reads_right : Stmt := top 59
abbrev N__law_reads_right : List Str := ["_law_dice_here", "_law_held", "_law_number", "_law_some", "_law_reads", "_law_calls", "_law_right", "_law_call", "<tb>"]
theorem sc__law_reads_right : FnScope N__law_reads_right ["_law_dice_here"] (defScope s__law_reads_right) := ⟨rfl, rfl, rfl, by decide +kernel, rfl, by decide +kernel, by decide +kernel⟩
abbrev lam0 : LamT := lamOf (("_law_reads_right" ++ ".<locals>.") ++ "<lambda>") (listEl 2 (asgVal ((defBody s__law_reads_right).getD 4 (.Pass ⟨0, 0, 0, 0⟩))))
theorem fr0 : ∀ y ∈ lam0.scope.names, y.2 = .free → (defScope s__law_reads_right).names.lookup y.1 = some .cell ∨ (defScope s__law_reads_right).names.lookup y.1 = some .free := by decide +kernel
abbrev lam1 : LamT := lamOf (("_law_reads_right" ++ ".<locals>.") ++ "<lambda>") (listEl 0 (asgVal ((defBody s__law_reads_right).getD 5 (.Pass ⟨0, 0, 0, 0⟩))))
theorem fr1 : ∀ y ∈ lam1.scope.names, y.2 = .free → (defScope s__law_reads_right).names.lookup y.1 = some .cell ∨ (defScope s__law_reads_right).names.lookup y.1 = some .free := by decide +kernel
abbrev lam2 : LamT := lamOf (("_law_reads_right" ++ ".<locals>.") ++ "<lambda>") (listEl 0 (asgVal ((defBody s__law_reads_right).getD 6 (.Pass ⟨0, 0, 0, 0⟩))))
theorem fr2 : ∀ y ∈ lam2.scope.names, y.2 = .free → (defScope s__law_reads_right).names.lookup y.1 = some .cell ∨ (defScope s__law_reads_right).names.lookup y.1 = some .free := by decide +kernel
abbrev lam3 : LamT := lamOf (("_law_reads_right" ++ ".<locals>.") ++ "<lambda>") (listEl 0 (asgVal ((defBody s__law_reads_right).getD 7 (.Pass ⟨0, 0, 0, 0⟩))))
theorem fr3 : ∀ y ∈ lam3.scope.names, y.2 = .free → (defScope s__law_reads_right).names.lookup y.1 = some .cell ∨ (defScope s__law_reads_right).names.lookup y.1 = some .free := by decide +kernel
def WL0 : WL := lCall P_do_cover (wCons (wVar 0) (wCons (wVar 1) (wCons (wC .none) wNil)))
def WL1 : WL := lCall P_are_apart (wCons (wVar 0) (wCons (wVar 1) (wCons (wTup wNil) wNil)))
def WL2 : WL := lCall P_asks_or_marks (wCons (wVar 0) (wCons (wVar 1) (wCons (wVar 2) wNil)))
def WL3 : WL := lCall P_is_asks_or_marks (wCons (wVar 0) (wCons (wVar 1) (wCons (wVar 2) (wCons (wC .none) wNil))))
inductive S_rr (fa fb c : Addr) (v0 : V) (dn : D) : CalS
  | a1 : S_rr fa fb c v0 dn (.glob fa) [] [] P_asks_of
  | a2 : S_rr fa fb c v0 dn (.glob fb) [] [] P_fewest_asks
  | l0 : S_rr fa fb c v0 dn (.lam lam0 []) [] [] (fun ds R RX => WL0 ((ds ++ []).map .fz) R RX)
  | l1 : S_rr fa fb c v0 dn (.lam lam1 []) [] [] (fun ds R RX => WL1 ((ds ++ []).map .fz) R RX)
  | l2 : S_rr fa fb c v0 dn (.lam lam2 [("_law_number", c)]) [v0] [dn] (fun ds R RX => WL2 ((ds ++ [dn]).map .fz) R RX)
  | l3 : S_rr fa fb c v0 dn (.lam lam3 [("_law_number", c)]) [v0] [dn] (fun ds R RX => WL3 ((ds ++ [dn]).map .fz) R RX)
def W__law_reads_right (fa fb : Addr) (P2 : Addr) (c : Addr) : WS := (wSeq (wPar 1 2 (wFz (wFunO P__law_odd 0 (wCons (wC (.int 0)) (wCons (wC (.int 200)) wNil)))) (wFz (wFunO P__law_odd 0 (wCons (wC (.int 0)) (wCons (wC (.int 400)) wNil))))) (wSeq (wSet 3 (wFz (wLst (wCons (wC .none) (wCons (wC (.int 5)) (wCons (wLst (wCons (wTup (wCons (wC (.int 0)) (wCons (wTup (wCons (wC (.str "a")) wNil)) wNil))) wNil)) (wCons (wTup (wCons (wTup (wCons (wC (.int 0)) (wCons (wC (.str "a")) wNil))) wNil)) (wCons (wTup (wCons (wTup (wCons (wC (.int 0)) (wCons (wTup wNil) wNil))) wNil)) (wCons (wTup (wCons (wTup (wCons (wC (.int 0)) (wCons (wTup (wCons (wC (.str "b")) (wCons (wC (.str "a")) wNil))) wNil))) wNil)) (wCons (wTup (wCons (wTup (wCons (wC (.int 0)) (wCons (wTup (wCons (wC (.str "a")) (wCons (wC (.str "a")) wNil))) wNil))) wNil)) (wCons (wTup (wCons (wTup (wCons (wC (.int 1)) (wCons (wTup (wCons (wC (.str "a")) wNil)) wNil))) (wCons (wTup (wCons (wC (.int 0)) (wCons (wTup (wCons (wC (.str "a")) wNil)) wNil))) wNil))) wNil))))))))))) (wSeq (wSet 3 (wFz (wBin fCatL (wVar 3) (wLst (wCons (wTup (wCons (wTup (wCons (wNeg (wC (.int 1))) (wCons (wTup (wCons (wC (.str "a")) wNil)) wNil))) wNil)) (wCons (wTup (wCons (wTup (wCons (wC (.bool true)) (wCons (wTup (wCons (wC (.str "a")) wNil)) wNil))) wNil)) (wCons (wTup (wCons (wTup (wCons (wC (.int 0)) (wCons (wTup (wCons (wC (.str "A")) wNil)) wNil))) wNil)) (wCons (wTup (wCons (wTup (wCons (wC (.int 0)) (wCons (wLst (wCons (wC (.str "a")) wNil)) wNil))) wNil)) (wCons (wTup (wCons (wTup (wCons (wC (.int 0)) wNil)) wNil)) (wCons (wBin fRepT (wTup (wCons (wTup (wCons (wC (.int 0)) (wCons (wTup (wCons (wC (.str "a")) wNil)) wNil))) wNil)) (wC (.int 61))) (wCons (wC empD) (wCons (wTup (wCons (wTup (wCons (wC (.int 0)) (wCons (wTup (wCons (wC (.str "a")) wNil)) (wCons (wC (.int 1)) wNil)))) wNil)) wNil)))))))))))) (wSeq (wSet 4 (wFz (wFunO P__law_pick 0 (wCons (wBin fCatL (wVar 3) (wLst (wCons (wTup (wCons (wTup (wCons (wC (.int 0)) (wCons (wTup (wCons (wC (.str "a")) (wCons (wC (.str "b")) (wCons (wC (.str "c")) (wCons (wC (.str "d")) (wCons (wC (.str "e")) (wCons (wC (.str "f")) (wCons (wC (.str "g")) wNil)))))))) wNil))) wNil)) (wCons (wTup (wCons (wTup (wCons (wC .none) (wCons (wTup (wCons (wC (.str "a")) wNil)) wNil))) wNil)) (wCons (wTup (wCons (wTup (wCons (wC (.int 0)) (wCons (wTup (wCons (wC (.str "abcdefghi")) wNil)) wNil))) wNil)) (wCons (wTup (wCons (wTup (wCons (wBin (fIC CPow fun i j => i ^ j.toNat) (wC (.int 10)) (wC (.int 60))) (wCons (wTup (wCons (wC (.str "a")) wNil)) wNil))) wNil)) wNil)))))) wNil)))) (wSeq (wSet 5 (wFl (wfsCons (wfGlob fa) (wfsCons (wfGlob fb) (wfsCons (wfLam 8 P2 lam0 []) wfsNil))))) (wSeq (wDrop (wFApp 5 (wfLam 8 P2 lam1 []))) (wSeq (wDrop (wFApp 5 (wfLam 8 P2 lam2 [("_law_number", c)]))) (wSeq (wDrop (wFApp 5 (wfLam 8 P2 lam3 [("_law_number", c)]))) (wSeq (wIfS (wB (wBin fNeD (wFnComp 8 7 5 2 2 P2 (("_law_reads_right" ++ ".<locals>.") ++ "<lambda>") "InvalidNumber" "InvalidOperation" "given" "operation" "fine" (S_rr fa fb c) (wCons (wVar 1) (wCons (wVar 4) wNil))) (wBin fRepL (wLst (wCons (wCall fRepr (wCons (wVar 1) wNil)) wNil)) (wC (.int 6))))) (wRet (wC (.bool false))) wNx) (wSeq (wIfS (wB (wBin fNeD (wFnComp 8 7 5 2 2 P2 (("_law_reads_right" ++ ".<locals>.") ++ "<lambda>") "InvalidNumber" "InvalidOperation" "given" "operation" "fine" (S_rr fa fb c) (wCons (wC (.int 7)) (wCons (wVar 4) wNil))) (wBin fRepL (wLst (wCons (wC (.str "operation")) wNil)) (wC (.int 6))))) (wRet (wC (.bool false))) wNx) (wSeq (wSet 6 (wFz (wBin fRepT (wTup (wCons (wTup (wCons (wC (.int 0)) (wCons (wTup (wCons (wC (.str "a")) wNil)) wNil))) wNil)) (wC (.int 60))))) (wRet (wBin fEqD (wFnComp 8 7 5 2 2 P2 (("_law_reads_right" ++ ".<locals>.") ++ "<lambda>") "InvalidNumber" "InvalidOperation" "given" "operation" "fine" (S_rr fa fb c) (wCons (wC (.int 200)) (wCons (wVar 6) wNil))) (wBin fCatL (wBin fRepL (wLst (wCons (wC (.str "fine")) wNil)) (wC (.int 4))) (wBin fRepL (wLst (wCons (wCall fRepr (wCons (wVar 2) wNil)) wNil)) (wC (.int 2)))))))))))))))))
def P__law_reads_right (fa fb P2 : Addr) : PGd := fun es R => ∀ c a, W__law_reads_right fa fb P2 c (endG a [(8, P2, (("_law_reads_right" ++ ".<locals>.") ++ "<lambda>"))] R) (ghostE [(8, P2, (("_law_reads_right" ++ ".<locals>.") ++ "<lambda>"))] (startO 9 a es []))
theorem has__law_reads_right (T : Tx P K mg) (M : MetF K mg "_law_met" (top 56) "_law_call" "error" "InvalidNumber" "InvalidOperation" "given" "operation" "fine") {P2 : Addr} (TB : ∀ f fd, mg "_law_reads_right" = some (.ref f) → FnP K "_law_reads_right" s__law_reads_right f fd → ∃ c, fd.code = .ref c ∧ LamX.TabB base mg c P2) (H__law_odd : Has P w K mg base "_law_odd" 3 ["_law_dice_here", "_law_least", "_law_most"] (spO K 3 P__law_odd)) (H__law_pick : Has P w K mg base "_law_pick" 2 ["_law_dice_here", "_law_items"] (spO K 2 P__law_pick)) (H_are_apart : ∀ base : Heap, HasX P w K mg base "are_apart" 7 ["held", "reads", "value"] (spX K mg 3 P_are_apart)) (H_asks_of : ∀ base : Heap, HasX P w K mg base "asks_of" 7 ["held", "reads"] (spX K mg 2 P_asks_of)) (H_asks_or_marks : ∀ base : Heap, HasX P w K mg base "asks_or_marks" 8 ["held", "reads", "number"] (spX K mg 3 P_asks_or_marks)) (H_do_cover : ∀ base : Heap, HasX P w K mg base "do_cover" 7 ["held", "reads", "value"] (spX K mg 3 P_do_cover)) (H_fewest_asks : ∀ base : Heap, HasX P w K mg base "fewest_asks" 7 ["held", "reads"] (spX K mg 2 P_fewest_asks)) (H_is_asks_or_marks : ∀ base : Heap, HasX P w K mg base "is_asks_or_marks" 8 ["held", "reads", "number", "value"] (spX K mg 4 P_is_asks_or_marks)) {fa fb : Addr} (h_asks_of : mg "asks_of" = some (.ref fa)) (h_fewest_asks : mg "fewest_asks" = some (.ref fb)) (k_a : ∃ oc od fd osl, K.lookup fa = some ⟨oc, od, .func fd, osl⟩) (k_b : ∃ oc od fd osl, K.lookup fb = some ⟨oc, od, .func fd, osl⟩) : HasG P w K mg base "_law_reads_right" 30 ["_law_dice_here"] (spG K [(P2, (("_law_reads_right" ++ ".<locals>.") ++ "<lambda>"))] (P__law_reads_right fa fb P2)) := by
  have hS : ∀ (c : Addr) (base' : Heap) (v0 : V) (dn : D) (d : FnD) (gs : List V) (gd : List D) (f : PX), L2.Mod K mg base' → (∃ u, base'.IsCell c (some u) ∧ RelV v0 u) → S_rr fa fb c v0 dn d gs gd f → CalOk P w K mg base' 20 2 gs gd d f := by
    intro c base' v0 dn d gs gd f hM hc h
    cases h with
    | a1 => exact cal_glob ((H_asks_of base').mono (by decide)) h_asks_of k_a
    | a2 => exact cal_glob ((H_fewest_asks base').mono (by decide)) h_fewest_asks k_b
    | l0 => exact cal_lam (k := 19) (t := lam0) (N := ["_law_one", "_law_other"]) (ps := ["_law_one", "_law_other"]) (lamP0 (by decide +kernel)) cellsB0 rfl rfl (fun us hl pm cv ctv => match us, hl with | [_, _], _ => rfl) (fun A outer s H E f c' hr => pe_bodyCall (takes_of rfl rfl rfl rfl) (H_do_cover base') (hr.mono (by decide)) (pua_cons (pu_v 0) (pua_cons (pu_v 1) (pua_cons pu_non pua_nil))))
    | l1 => exact cal_lam (k := 19) (t := lam1) (N := ["_law_one", "_law_other"]) (ps := ["_law_one", "_law_other"]) (lamP0 (by decide +kernel)) cellsB0 rfl rfl (fun us hl pm cv ctv => match us, hl with | [_, _], _ => rfl) (fun A outer s H E f c' hr => pe_bodyCall (takes_of rfl rfl rfl rfl) (H_are_apart base') (hr.mono (by decide)) (pua_cons (pu_v 0) (pua_cons (pu_v 1) (pua_cons (pu_tup pua_nil) pua_nil))))
    | l2 => exact cal_lam (k := 19) (t := lam2) (N := ["_law_one", "_law_other", "_law_number"]) (ps := ["_law_one", "_law_other"]) (lamP1 (by decide +kernel)) (cellsB1 (ps := ["_law_one", "_law_other"]) hc (by decide +kernel)) rfl rfl (fun us hl pm cv ctv => match us, hl with | [_, _], _ => rfl) (fun A outer s H E f c' hr => pe_bodyCall (takes_of rfl rfl rfl rfl) (H_asks_or_marks base') (hr.mono (by decide)) (pua_cons (pu_v 0) (pua_cons (pu_v 1) (pua_cons (pu_v 2) pua_nil))))
    | l3 => exact cal_lam (k := 19) (t := lam3) (N := ["_law_one", "_law_other", "_law_number"]) (ps := ["_law_one", "_law_other"]) (lamP1 (by decide +kernel)) (cellsB1 (ps := ["_law_one", "_law_other"]) hc (by decide +kernel)) rfl rfl (fun us hl pm cv ctv => match us, hl with | [_, _], _ => rfl) (fun A outer s H E f c' hr => pe_bodyCall (takes_of rfl rfl rfl rfl) (H_is_asks_or_marks base') (hr.mono (by decide)) (pua_cons (pu_v 0) (pua_cons (pu_v 1) (pua_cons (pu_v 2) (pua_cons pu_non pua_nil)))))
  refine has_g (T := [(8, P2, (("_law_reads_right" ++ ".<locals>.") ++ "<lambda>"))]) (T.d__law_reads_right) sc__law_reads_right (fun F => F.bindsN fun _ _ _ _ _ _ us hl => match us, hl with | [_], _ => rfl) (fun t ht => by cases List.mem_singleton.mp ht; exact ⟨"<tb>", rfl, by unfold Vis; decide +kernel⟩) (fun a es => free1 (by decide) a es) (fun f fd Fm F A outer s H hgd0 hr => ?_)
  have hgd : (A.deeper (envOfC "_law_reads_right" (defScope s__law_reads_right) s.heap.objs.size f fd.code)).guards = some [] := guards_deeper hgd0
  obtain ⟨c0, hcd, tb⟩ := TB f fd Fm F
  have hu := hu_of hr
  have hu64 := hr.units
  have hu0 := hr.units0
  have hu20 := hu20_of hr.units
  obtain ⟨c, hcell⟩ := cell_has (n := s.heap.objs.size + 1) (sc := defScope s__law_reads_right) (x := "_law_number") (by decide +kernel)
  have hS := hS c
  exact ⟨W__law_reads_right fa fb P2 c, (puss_cons (pus_par2 1 2 (puv_fz (pu_funOH 0 H__law_odd (hr.mono (by decide)) (pua_cons pu_int (pua_cons pu_int pua_nil)))) (puv_fz (pu_funOH 0 H__law_odd (hr.mono (by decide)) (pua_cons pu_int (pua_cons pu_int pua_nil)))) sc__law_reads_right.nd) (puss_cons (pus_set 3 (puv_fz (pu_lst (pua_cons pu_non (pua_cons pu_int (pua_cons (pu_lst (pua_cons (pu_tup (pua_cons pu_int (pua_cons (pu_tup (pua_cons pu_str pua_nil)) pua_nil))) pua_nil)) (pua_cons (pu_tup (pua_cons (pu_tup (pua_cons pu_int (pua_cons pu_str pua_nil))) pua_nil)) (pua_cons (pu_tup (pua_cons (pu_tup (pua_cons pu_int (pua_cons (pu_tup pua_nil) pua_nil))) pua_nil)) (pua_cons (pu_tup (pua_cons (pu_tup (pua_cons pu_int (pua_cons (pu_tup (pua_cons pu_str (pua_cons pu_str pua_nil))) pua_nil))) pua_nil)) (pua_cons (pu_tup (pua_cons (pu_tup (pua_cons pu_int (pua_cons (pu_tup (pua_cons pu_str (pua_cons pu_str pua_nil))) pua_nil))) pua_nil)) (pua_cons (pu_tup (pua_cons (pu_tup (pua_cons pu_int (pua_cons (pu_tup (pua_cons pu_str pua_nil)) pua_nil))) (pua_cons (pu_tup (pua_cons pu_int (pua_cons (pu_tup (pua_cons pu_str pua_nil)) pua_nil))) pua_nil))) pua_nil)))))))))) sc__law_reads_right.nd) (puss_cons (pus_set 3 (puv_fz (pu_op op_cat sr_catL (pu_v 3) (pu_lst (pua_cons (pu_tup (pua_cons (pu_tup (pua_cons (pu_neg pu_int) (pua_cons (pu_tup (pua_cons pu_str pua_nil)) pua_nil))) pua_nil)) (pua_cons (pu_tup (pua_cons (pu_tup (pua_cons pu_bl (pua_cons (pu_tup (pua_cons pu_str pua_nil)) pua_nil))) pua_nil)) (pua_cons (pu_tup (pua_cons (pu_tup (pua_cons pu_int (pua_cons (pu_tup (pua_cons pu_str pua_nil)) pua_nil))) pua_nil)) (pua_cons (pu_tup (pua_cons (pu_tup (pua_cons pu_int (pua_cons (pu_lst (pua_cons pu_str pua_nil)) pua_nil))) pua_nil)) (pua_cons (pu_tup (pua_cons (pu_tup (pua_cons pu_int pua_nil)) pua_nil)) (pua_cons (pu_op op_repT sr_repT (pu_tup (pua_cons (pu_tup (pua_cons pu_int (pua_cons (pu_tup (pua_cons pu_str pua_nil)) pua_nil))) pua_nil)) pu_int) (pua_cons pu_emp (pua_cons (pu_tup (pua_cons (pu_tup (pua_cons pu_int (pua_cons (pu_tup (pua_cons pu_str pua_nil)) (pua_cons pu_int pua_nil)))) pua_nil)) pua_nil))))))))))) sc__law_reads_right.nd) (puss_cons (pus_set 4 (puv_fz (pu_funOH 0 H__law_pick (hr.mono (by decide)) (pua_cons (pu_op op_cat sr_catL (pu_v 3) (pu_lst (pua_cons (pu_tup (pua_cons (pu_tup (pua_cons pu_int (pua_cons (pu_tup (pua_cons pu_str (pua_cons pu_str (pua_cons pu_str (pua_cons pu_str (pua_cons pu_str (pua_cons pu_str (pua_cons pu_str pua_nil)))))))) pua_nil))) pua_nil)) (pua_cons (pu_tup (pua_cons (pu_tup (pua_cons pu_non (pua_cons (pu_tup (pua_cons pu_str pua_nil)) pua_nil))) pua_nil)) (pua_cons (pu_tup (pua_cons (pu_tup (pua_cons pu_int (pua_cons (pu_tup (pua_cons pu_str pua_nil)) pua_nil))) pua_nil)) (pua_cons (pu_tup (pua_cons (pu_tup (pua_cons (pu_op op_pow sr_iC pu_int pu_int) (pua_cons (pu_tup (pua_cons pu_str pua_nil)) pua_nil))) pua_nil)) pua_nil)))))) pua_nil))) sc__law_reads_right.nd) (puss_cons (pus_set 5 (puv_fl (pufs_cons (puf_glob h_asks_of) (pufs_cons (puf_glob h_fewest_asks) (pufs_cons (puf_lam (i := 8) (t := lam0) tb hcd rfl (cl := []) rfl fr0) pufs_nil)))) sc__law_reads_right.nd) (puss_cons (pus_expr (pu_fappend 5 (puf_lam (i := 8) (t := lam1) tb hcd rfl (cl := []) rfl fr1))) (puss_cons (pus_expr (pu_fappend 5 (puf_lam (i := 8) (t := lam2) tb hcd rfl (cl := [("_law_number", c)]) (congrArg (fun o : Option Addr => [(("_law_number" : Str), o.getD 0)]) hcell) fr2))) (puss_cons (pus_expr (pu_fappend 5 (puf_lam (i := 8) (t := lam3) tb hcd rfl (cl := [("_law_number", c)]) (congrArg (fun o : Option Addr => [(("_law_number" : Str), o.getD 0)]) hcell) fr3))) (puss_cons (pus_if (put_cmp (op_neD hu64) sr_neD (pu_fnComp (i := 8) (n := 2) (k := 20) (S := S_rr fa fb c) M tb hcd rfl (hr.mono (by decide)) hgd hcell rfl rfl rfl rfl sc__law_reads_right.nd rfl rfl (Or.inl rfl) (by decide) (by decide) (by decide) (by decide) (blkOk_by (N := N__law_reads_right) (sc := defScope s__law_reads_right) (by decide +kernel)) rfl (Or.inr rfl) rfl (by decide) (LamX.lamS_by (sc := relS _ (defScope s__law_reads_right)) (by decide +kernel)) rfl rfl (fun _ _ => rfl) (fun _ _ _ _ _ _ => rfl) hS (fun base' s0 H0 C cl fp A outer s H E fa c' => (pua_cons (pu_v 1) (pua_cons (pu_v 4) pua_nil))) (fun _ => rfl) (fun _ => rfl) (fun _ => rfl)) (pu_op op_rep sr_repL (pu_lst (pua_cons (pu_blt (cr_repr hgd hu64) sc_repr rfl T.b_repr bb_repr (pua_cons (pu_v 1) pua_nil)) pua_nil)) pu_int)) (puss_one (pus_ret pu_bl)) puss_nil) (puss_cons (pus_if (put_cmp (op_neD hu64) sr_neD (pu_fnComp (i := 8) (n := 2) (k := 20) (S := S_rr fa fb c) M tb hcd rfl (hr.mono (by decide)) hgd hcell rfl rfl rfl rfl sc__law_reads_right.nd rfl rfl (Or.inl rfl) (by decide) (by decide) (by decide) (by decide) (blkOk_by (N := N__law_reads_right) (sc := defScope s__law_reads_right) (by decide +kernel)) rfl (Or.inr rfl) rfl (by decide) (LamX.lamS_by (sc := relS _ (defScope s__law_reads_right)) (by decide +kernel)) rfl rfl (fun _ _ => rfl) (fun _ _ _ _ _ _ => rfl) hS (fun base' s0 H0 C cl fp A outer s H E fa c' => (pua_cons pu_int (pua_cons (pu_v 4) pua_nil))) (fun _ => rfl) (fun _ => rfl) (fun _ => rfl)) (pu_op op_rep sr_repL (pu_lst (pua_cons pu_str pua_nil)) pu_int)) (puss_one (pus_ret pu_bl)) puss_nil) (puss_cons (pus_set 6 (puv_fz (pu_op op_repT sr_repT (pu_tup (pua_cons (pu_tup (pua_cons pu_int (pua_cons (pu_tup (pua_cons pu_str pua_nil)) pua_nil))) pua_nil)) pu_int)) sc__law_reads_right.nd) (puss_one (pus_ret (pu_cmp (op_eqD hu64) sr_eqD (pu_fnComp (i := 8) (n := 2) (k := 20) (S := S_rr fa fb c) M tb hcd rfl (hr.mono (by decide)) hgd hcell rfl rfl rfl rfl sc__law_reads_right.nd rfl rfl (Or.inl rfl) (by decide) (by decide) (by decide) (by decide) (blkOk_by (N := N__law_reads_right) (sc := defScope s__law_reads_right) (by decide +kernel)) rfl (Or.inr rfl) rfl (by decide) (LamX.lamS_by (sc := relS _ (defScope s__law_reads_right)) (by decide +kernel)) rfl rfl (fun _ _ => rfl) (fun _ _ _ _ _ _ => rfl) hS (fun base' s0 H0 C cl fp A outer s H E fa c' => (pua_cons pu_int (pua_cons (pu_v 6) pua_nil))) (fun _ => rfl) (fun _ => rfl) (fun _ => rfl)) (pu_op op_cat sr_catL (pu_op op_rep sr_repL (pu_lst (pua_cons pu_str pua_nil)) pu_int) (pu_op op_rep sr_repL (pu_lst (pua_cons (pu_blt (cr_repr hgd hu64) sc_repr rfl T.b_repr bb_repr (pua_cons (pu_v 2) pua_nil)) pua_nil)) pu_int)))))))))))))))), fun a es R h => h c a⟩
end
end AF

set_option Elab.async false
set_option linter.all false
set_option maxRecDepth 100000
set_option maxHeartbeats 4000000
namespace AF
open PySem PySem.Spec PyProof.Rows L2
section
variable {P : Program} {w : World} {K : PySem.W.Frag} {mg : Str → Option Value} {base : Heap}
/-! ### _law_ends_right -/
abbrev s__law_ends_right : Stmt := top 60
abbrev N__law_ends_right : List Str := ["_law_dice_here", "_law_ends", "_law_reading", "_law_ceiling", "_law_told", "<tb>"]
theorem sc__law_ends_right : FnScope N__law_ends_right ["_law_dice_here"] (defScope s__law_ends_right) := ⟨rfl, rfl, rfl, by decide +kernel, rfl, by decide +kernel, by decide +kernel⟩
def W__law_ends_right (P3 : Addr) : WS := (wSeq (wSet 1 (wFz (wFunO P__law_pick 0 (wCons (wLst (wCons (wC .none) (wCons (wC (.int 5)) (wCons (wLst (wCons (wC (.int 1)) wNil)) (wCons (wTup (wCons (wNeg (wC (.int 1))) wNil)) (wCons (wTup (wCons (wC (.bool true)) wNil)) (wCons (wTup (wCons (wC (.str "1")) wNil)) (wCons (wBin fRepT (wTup (wCons (wC (.int 0)) wNil)) (wC (.int 241))) (wCons (wC empD) (wCons (wTup (wCons (wTup (wCons (wC (.int 1)) wNil)) wNil)) (wCons (wTup (wCons (wBin (fIC CPow fun i j => i ^ j.toNat) (wC (.int 10)) (wC (.int 60))) wNil)) (wCons (wC (.str "1")) wNil)))))))))))) wNil)))) (wSeq (wPar 2 3 (wFz (wFunO P__law_pick 0 (wCons (wLst (wCons (wC .none) (wCons (wNeg (wC (.int 1))) (wCons (wC (.bool true)) (wCons (wC (.str "0")) (wCons (wTup (wCons (wC (.int 0)) wNil)) (wCons (wBin (fIC CPow fun i j => i ^ j.toNat) (wC (.int 10)) (wC (.int 60))) wNil))))))) wNil))) (wFz (wFunO P__law_pick 0 (wCons (wLst (wCons (wNeg (wC (.int 1))) (wCons (wC (.bool true)) (wCons (wC (.str "0")) (wCons (wTup (wCons (wC (.int 0)) wNil)) (wCons (wBin (fIC CPow fun i j => i ^ j.toNat) (wC (.int 10)) (wC (.int 60))) (wCons (wC empD) wNil))))))) wNil)))) (wSeq (wSet 4 (wOl (wCons (wMet 5 P3 (("_law_ends_right" ++ ".<locals>.") ++ "<lambda>") "InvalidNumber" "InvalidOperation" "given" "operation" "fine" (lCall P_put_at (wCons (wVar 1) (wCons (wVar 2) (wCons (wVar 3) wNil))))) wNil))) (wSeq (wDrop (wApp 4 (wMet 5 P3 (("_law_ends_right" ++ ".<locals>.") ++ "<lambda>") "InvalidNumber" "InvalidOperation" "given" "operation" "fine" (lCall P_put_at (wCons (wTup (wCons (wC (.int 1)) wNil)) (wCons (wVar 2) (wCons (wVar 3) wNil))))))) (wSeq (wDrop (wApp 4 (wMet 5 P3 (("_law_ends_right" ++ ".<locals>.") ++ "<lambda>") "InvalidNumber" "InvalidOperation" "given" "operation" "fine" (lCall P_put_at (wCons (wBin fRepT (wTup (wCons (wC (.int 0)) wNil)) (wC (.int 240))) (wCons (wC (.int 3)) (wCons (wVar 3) wNil))))))) (wRet (wAnd (wBin fEqD (wVar 4) (wLst (wCons (wC (.str "operation")) (wCons (wCall fRepr (wCons (wVar 2) wNil)) (wCons (wCall fRepr (wCons (wVar 3) wNil)) wNil))))) (wBin fEqS (wMet 5 P3 (("_law_ends_right" ++ ".<locals>.") ++ "<lambda>") "InvalidNumber" "InvalidOperation" "given" "operation" "fine" (lCall P_put_at (wCons (wBin fRepT (wTup (wCons (wC (.int 0)) wNil)) (wC (.int 240))) (wCons (wBin (fI fun i j => i - j) (wBin (fIC CPow fun i j => i ^ j.toNat) (wC (.int 10)) (wC (.int 60))) (wC (.int 1))) (wCons (wC (.int 0)) wNil))))) (wC (.str "fine"))))))))))
def P__law_ends_right (P3 : Addr) : PGd := fun es R => ∀ a, W__law_ends_right P3 (endG a [(5, P3, (("_law_ends_right" ++ ".<locals>.") ++ "<lambda>"))] R) (ghostE [(5, P3, (("_law_ends_right" ++ ".<locals>.") ++ "<lambda>"))] (startO 6 a es []))
theorem has__law_ends_right (T : Tx P K mg) (M : MetF K mg "_law_met" (top 56) "_law_call" "error" "InvalidNumber" "InvalidOperation" "given" "operation" "fine") {P3 : Addr} (TB : ∀ f fd, mg "_law_ends_right" = some (.ref f) → FnP K "_law_ends_right" s__law_ends_right f fd → ∃ c, fd.code = .ref c ∧ LamX.TabB base mg c P3) (H__law_pick : Has P w K mg base "_law_pick" 2 ["_law_dice_here", "_law_items"] (spO K 2 P__law_pick)) (H_put_at : ∀ base : Heap, HasX P w K mg base "put_at" 5 ["ends", "reading", "ceiling"] (spX K mg 3 P_put_at)) : HasG P w K mg base "_law_ends_right" 30 ["_law_dice_here"] (spG K [(P3, (("_law_ends_right" ++ ".<locals>.") ++ "<lambda>"))] (P__law_ends_right P3)) := by
  refine has_g (T := [(5, P3, (("_law_ends_right" ++ ".<locals>.") ++ "<lambda>"))]) (T.d__law_ends_right) sc__law_ends_right (fun F => F.bindsN fun _ _ _ _ _ _ us hl => match us, hl with | [_], _ => rfl) (fun t ht => by cases List.mem_singleton.mp ht; exact ⟨"<tb>", rfl, by unfold Vis; decide +kernel⟩) (fun a es => free1 (by decide) a es) (fun f fd Fm F A outer s H hgd0 hr => ?_)
  have hgd : (A.deeper (envOfC "_law_ends_right" (defScope s__law_ends_right) s.heap.objs.size f fd.code)).guards = some [] := guards_deeper hgd0
  obtain ⟨c0, hcd, tb⟩ := TB f fd Fm F
  have hu := hu_of hr
  have hu64 := hr.units
  have hu0 := hr.units0
  have hu20 := hu20_of hr.units
  exact ⟨W__law_ends_right P3, (puss_cons (pus_set 1 (puv_fz (pu_funOH 0 H__law_pick (hr.mono (by decide)) (pua_cons (pu_lst (pua_cons pu_non (pua_cons pu_int (pua_cons (pu_lst (pua_cons pu_int pua_nil)) (pua_cons (pu_tup (pua_cons (pu_neg pu_int) pua_nil)) (pua_cons (pu_tup (pua_cons pu_bl pua_nil)) (pua_cons (pu_tup (pua_cons pu_str pua_nil)) (pua_cons (pu_op op_repT sr_repT (pu_tup (pua_cons pu_int pua_nil)) pu_int) (pua_cons pu_emp (pua_cons (pu_tup (pua_cons (pu_tup (pua_cons pu_int pua_nil)) pua_nil)) (pua_cons (pu_tup (pua_cons (pu_op op_pow sr_iC pu_int pu_int) pua_nil)) (pua_cons pu_str pua_nil)))))))))))) pua_nil))) sc__law_ends_right.nd) (puss_cons (pus_par2 2 3 (puv_fz (pu_funOH 0 H__law_pick (hr.mono (by decide)) (pua_cons (pu_lst (pua_cons pu_non (pua_cons (pu_neg pu_int) (pua_cons pu_bl (pua_cons pu_str (pua_cons (pu_tup (pua_cons pu_int pua_nil)) (pua_cons (pu_op op_pow sr_iC pu_int pu_int) pua_nil))))))) pua_nil))) (puv_fz (pu_funOH 0 H__law_pick (hr.mono (by decide)) (pua_cons (pu_lst (pua_cons (pu_neg pu_int) (pua_cons pu_bl (pua_cons pu_str (pua_cons (pu_tup (pua_cons pu_int pua_nil)) (pua_cons (pu_op op_pow sr_iC pu_int pu_int) (pua_cons pu_emp pua_nil))))))) pua_nil))) sc__law_ends_right.nd) (puss_cons (pus_set 4 (puv_lst (pua_cons (pu_met (i := 5) (k := 20) M tb hcd rfl (hr.mono (by decide)) hgd (fun A outer s H E f c' hr => pe_bodyCall (takes_of rfl rfl rfl rfl) (H_put_at base) (hr.mono (by decide)) (pua_cons (pu_v 1) (pua_cons (pu_v 2) (pua_cons (pu_v 3) pua_nil)))) (LamX.lamS_by (sc := defScope s__law_ends_right) (by decide +kernel))) pua_nil)) sc__law_ends_right.nd) (puss_cons (pus_expr (pu_append 4 (pu_met (i := 5) (k := 20) M tb hcd rfl (hr.mono (by decide)) hgd (fun A outer s H E f c' hr => pe_bodyCall (takes_of rfl rfl rfl rfl) (H_put_at base) (hr.mono (by decide)) (pua_cons (pu_tup (pua_cons pu_int pua_nil)) (pua_cons (pu_v 2) (pua_cons (pu_v 3) pua_nil)))) (LamX.lamS_by (sc := defScope s__law_ends_right) (by decide +kernel))))) (puss_cons (pus_expr (pu_append 4 (pu_met (i := 5) (k := 20) M tb hcd rfl (hr.mono (by decide)) hgd (fun A outer s H E f c' hr => pe_bodyCall (takes_of rfl rfl rfl rfl) (H_put_at base) (hr.mono (by decide)) (pua_cons (pu_op op_repT sr_repT (pu_tup (pua_cons pu_int pua_nil)) pu_int) (pua_cons pu_int (pua_cons (pu_v 3) pua_nil)))) (LamX.lamS_by (sc := defScope s__law_ends_right) (by decide +kernel))))) (puss_one (pus_ret (pu_and (pu_cmp (op_eqD hu64) sr_eqD (pu_v 4) (pu_lst (pua_cons pu_str (pua_cons (pu_blt (cr_repr hgd hu64) sc_repr rfl T.b_repr bb_repr (pua_cons (pu_v 2) pua_nil)) (pua_cons (pu_blt (cr_repr hgd hu64) sc_repr rfl T.b_repr bb_repr (pua_cons (pu_v 3) pua_nil)) pua_nil))))) (pu_one (pu_cmp op_eq sr_eq (pu_met (i := 5) (k := 20) M tb hcd rfl (hr.mono (by decide)) hgd (fun A outer s H E f c' hr => pe_bodyCall (takes_of rfl rfl rfl rfl) (H_put_at base) (hr.mono (by decide)) (pua_cons (pu_op op_repT sr_repT (pu_tup (pua_cons pu_int pua_nil)) pu_int) (pua_cons (pu_op op_sub sr_i (pu_op op_pow sr_iC pu_int pu_int) pu_int) (pua_cons pu_int pua_nil)))) (LamX.lamS_by (sc := defScope s__law_ends_right) (by decide +kernel))) pu_str)))))))))), fun a es R h => h a⟩
end
end AF

set_option Elab.async false
set_option linter.all false
set_option maxRecDepth 100000
set_option maxHeartbeats 4000000
namespace AF
open PySem PySem.Spec PyProof.Rows L2
section
variable {P : Program} {w : World} {K : PySem.W.Frag} {mg : Str → Option Value} {base : Heap}
/-! ### law -/
abbrev s_law : Stmt := top 61
abbrev N_law : List Str := ["_law_script", "_law_spot", "_law_dice_here", "_law_turn", "_law_told", "<tb>", "<tbP1>", "<tbP2>", "<tbP3>"]
theorem sc_law : FnScope N_law ["_law_script"] (defScope s_law) := ⟨rfl, rfl, rfl, by decide +kernel, rfl, by decide +kernel, by decide +kernel⟩
def W_law (fa fb P0 P1 P2 P3 : Addr) : WS := (wSeq (wFor (wiRng1 (wCall (f2I fun i j => if j > i then j else i) (wCons (wC (.int 1)) (wCons (wCall (f2I fun i j => if j < i then j else i) (wCons (wC (.int 3)) (wCons (wCall fLen (wCons (wVar 0) wNil)) wNil))) wNil)))) (wgName 1) (wSeq (wSet 2 (wFunL P__law_dice (wCons (wVar 0) (wCons (wVar 1) wNil)))) (wFor (wiRng1 (wC (.int 3))) (wgName 3) (wIfS (wOrT (wNotT (wB (wFunG (P__law_numbers_right P1) 2 [(6, P1, (("_law_numbers_right" ++ ".<locals>.") ++ "<lambda>"))]))) (wOrT (wNotT (wB (wFunG (P__law_reads_right fa fb P2) 2 [(7, P2, (("_law_reads_right" ++ ".<locals>.") ++ "<lambda>"))]))) (wNotT (wB (wFunG (P__law_ends_right P3) 2 [(8, P3, (("_law_ends_right" ++ ".<locals>.") ++ "<lambda>"))]))))) (wRet (wC (.bool false))) wNx)))) (wSeq (wSet 4 (wOl (wCons (wMet 5 P0 (("law" ++ ".<locals>.") ++ "<lambda>") "InvalidNumber" "InvalidOperation" "given" "operation" "fine" (lCall P_asks_or_marks (wCons (wC (.int 0)) (wCons (wTup wNil) (wCons (wC (.int 400)) wNil))))) wNil))) (wSeq (wDrop (wApp 4 (wMet 5 P0 (("law" ++ ".<locals>.") ++ "<lambda>") "InvalidNumber" "InvalidOperation" "given" "operation" "fine" (lCall P_asks_or_marks (wCons (wC (.int 0)) (wCons (wTup wNil) (wCons (wC (.int 0)) wNil))))))) (wRet (wBin fEqD (wVar 4) (wLst (wCons (wC (.str "fine")) (wCons (wC (.str "fine")) wNil))))))))
abbrev T_law (P0 P1 P2 P3 : Addr) : List (Addr × Str) := [(P0, (("law" ++ ".<locals>.") ++ "<lambda>")), (P1, (("_law_numbers_right" ++ ".<locals>.") ++ "<lambda>")), (P2, (("_law_reads_right" ++ ".<locals>.") ++ "<lambda>")), (P3, (("_law_ends_right" ++ ".<locals>.") ++ "<lambda>"))]
def P_law (fa fb P0 P1 P2 P3 : Addr) : PD := fun ds R => ds.length = 1 ∧ W_law fa fb P0 P1 P2 P3 (endD R) (ghostE (rowT 5 (T_law P0 P1 P2 P3)) (startE 9 ds))
theorem has_law (T : Tx P K mg) (M : MetF K mg "_law_met" (top 56) "_law_call" "error" "InvalidNumber" "InvalidOperation" "given" "operation" "fine") {fa fb P0 P1 P2 P3 : Addr} (nd : ((T_law P0 P1 P2 P3).map (·.1)).Nodup) (TB : ∀ f fd, mg "law" = some (.ref f) → FnP K "law" s_law f fd → ∃ c, fd.code = .ref c ∧ LamX.TabB base mg c P0) (H__law_dice : Has P w K mg base "_law_dice" 1 ["_law_script", "_law_spot"] (spL K 2 P__law_dice)) (H_asks_or_marks : ∀ base : Heap, HasX P w K mg base "asks_or_marks" 8 ["held", "reads", "number"] (spX K mg 3 P_asks_or_marks)) (H__law_numbers_right : HasG P w K mg base "_law_numbers_right" 30 ["_law_dice_here"] (spG K [(P1, (("_law_numbers_right" ++ ".<locals>.") ++ "<lambda>"))] (P__law_numbers_right P1))) (H__law_reads_right : HasG P w K mg base "_law_reads_right" 30 ["_law_dice_here"] (spG K [(P2, (("_law_reads_right" ++ ".<locals>.") ++ "<lambda>"))] (P__law_reads_right fa fb P2))) (H__law_ends_right : HasG P w K mg base "_law_ends_right" 30 ["_law_dice_here"] (spG K [(P3, (("_law_ends_right" ++ ".<locals>.") ++ "<lambda>"))] (P__law_ends_right P3))) : HasG P w K mg base "law" 34 ["_law_script"] (spT0 K 1 (T_law P0 P1 P2 P3) (P_law fa fb P0 P1 P2 P3)) := by
  refine has_t0 (i := 5) (T := T_law P0 P1 P2 P3) (T.d_law) sc_law rfl (fun F => F.bindsN fun _ _ _ _ _ _ us hl => match us, hl with | [_], _ => rfl) (fun t ht => ?_) (by decide) (show 5 + 4 ≤ 9 by decide) nd (fun f fd Fm F A outer s H hgd0 hr => ?_)
  · simp only [rowT, List.mem_cons, List.not_mem_nil, or_false] at ht
    rcases ht with rfl | rfl | rfl | rfl
    · exact ⟨"<tb>", rfl, by unfold Vis; decide +kernel⟩
    · exact ⟨"<tbP1>", rfl, by unfold Vis; decide +kernel⟩
    · exact ⟨"<tbP2>", rfl, by unfold Vis; decide +kernel⟩
    · exact ⟨"<tbP3>", rfl, by unfold Vis; decide +kernel⟩
  have hgd : (A.deeper (envOfC "law" (defScope s_law) s.heap.objs.size f fd.code)).guards = some [] := guards_deeper hgd0
  obtain ⟨c0, hcd, tb⟩ := TB f fd Fm F
  have hu := hu_of hr
  have hu64 := hr.units
  have hu0 := hr.units0
  have hu20 := hu20_of hr.units
  exact ⟨W_law fa fb P0 P1 P2 P3, (puss_cons (pus_for (vs := [1]) PassesOwn.never rfl (pui_range1 (pu_blt (call_max2 rfl) sc_2I rfl T.b_max bb_max (pua_cons pu_int (pua_cons (pu_blt (call_min2 rfl) sc_2I rfl T.b_min bb_min (pua_cons pu_int (pua_cons (pu_blt (call_len) sc_len rfl T.b_len bb_len (pua_cons (pu_v 0) pua_nil)) pua_nil))) pua_nil))) T.b_range) (pug_name 1 sc_law.nd) (puss_cons (pus_set 2 (puv_funLH H__law_dice (hr.mono (by decide)) (pua_cons (pu_v 0) (pua_cons (pu_v 1) pua_nil))) sc_law.nd) (puss_one (pus_for (vs := [3]) PassesOwn.never rfl (pui_range1 pu_int T.b_range) (pug_name 3 sc_law.nd) (puss_one (pus_if (put_w (puw_or (put_not (put_val (pu_funG 2 [(6, P1, (("_law_numbers_right" ++ ".<locals>.") ++ "<lambda>"))] H__law_numbers_right (hr.mono (by decide)) hgd))) (puw_or (put_not (put_val (pu_funG 2 [(7, P2, (("_law_reads_right" ++ ".<locals>.") ++ "<lambda>"))] H__law_reads_right (hr.mono (by decide)) hgd))) (puw_or1 (put_not (put_val (pu_funG 2 [(8, P3, (("_law_ends_right" ++ ".<locals>.") ++ "<lambda>"))] H__law_ends_right (hr.mono (by decide)) hgd))))))) (puss_one (pus_ret pu_bl)) puss_nil)))))) (puss_cons (pus_set 4 (puv_lst (pua_cons (pu_met (i := 5) (k := 20) M tb hcd rfl (hr.mono (by decide)) hgd (fun A outer s H E f c' hr => pe_bodyCall (takes_of rfl rfl rfl rfl) (H_asks_or_marks base) (hr.mono (by decide)) (pua_cons pu_int (pua_cons (pu_tup pua_nil) (pua_cons pu_int pua_nil)))) (LamX.lamS_by (sc := defScope s_law) (by decide +kernel))) pua_nil)) sc_law.nd) (puss_cons (pus_expr (pu_append 4 (pu_met (i := 5) (k := 20) M tb hcd rfl (hr.mono (by decide)) hgd (fun A outer s H E f c' hr => pe_bodyCall (takes_of rfl rfl rfl rfl) (H_asks_or_marks base) (hr.mono (by decide)) (pua_cons pu_int (pua_cons (pu_tup pua_nil) (pua_cons pu_int pua_nil)))) (LamX.lamS_by (sc := defScope s_law) (by decide +kernel))))) (puss_one (pus_ret (pu_cmp (op_eqD hu64) sr_eqD (pu_v 4) (pu_lst (pua_cons pu_str (pua_cons pu_str pua_nil))))))))), fun ds R hl h => h.2⟩
end
end AF

set_option Elab.async false
set_option linter.all false
set_option maxRecDepth 100000
set_option maxHeartbeats 4000000
namespace AF
open PySem PySem.Spec PyProof.Rows L2
/-! ### evaluating over data -/
@[simp] theorem onD_d {d : D} {k : D → Prop} : onD (.d d) k = k d := rfl
@[simp] theorem onO_some {α : Type} {a : α} {k : α → Prop} : onO (some a) k = k a := rfl
@[simp] theorem onB_d {b : Bool} {k : Bool → Prop} : onB (.d (.bool b)) k = k b := rfl
@[simp] theorem onI_i {i : Int} {k : Int → Prop} : onI (.int i) k = k i := rfl
@[simp] theorem res_d {E : Env'} {d : D} : res E (.d d) = some d := rfl
@[simp] theorem frz_nil : frz [] = some [] := rfl
@[simp] theorem frz_cons {d : D} {r : List VD} : frz (.d d :: r) = (frz r).map (d :: ·) := rfl
@[simp] theorem ress_nil {E : Env'} : ress E [] = some [] := rfl
@[simp] theorem ress_cons {E : Env'} {x : VD} {r : List VD} : ress E (x :: r) = (res E x).bind fun a => (ress E r).map (a :: ·) := rfl
--
theorem wRet_d {w : WE} {Dd : EndsD} {E : Env'} : wRet w Dd E = w E fun x E1 => match x with
  | .d d => Dd.rt d E1
  | .own i => match E1[i]? with
    | some (.ol ds) => Dd.rt (.list ds) E1
    | _ => False := rfl
/-- a loop's walk -/
theorem loop_ok {S : Type} {wg : WG} {wb : WS} {Dd : EndsD} (Inv : S → Env' → Prop) (f : S → D → Option S) (v : D) (ok : D → Prop)
    (hstep : ∀ (s : S) (d : D) (E : Env') (nx : Env' → Prop), ok d → Inv s E → (∀ s', f s d = some s' → ∀ E', Inv s' E' → nx E') → (f s d = none → ∀ E', Dd.rt v E') → wg d E fun E1 => wb ⟨nx, Dd.rt, Dd.nx, nx⟩ E1) :
    ∀ (ds : List D) (s : S) (E : Env'), (∀ d ∈ ds, ok d) → Inv s E → (∀ s', ds.foldlM f s = some s' → ∀ E', Inv s' E' → Dd.nx E') → (ds.foldlM f s = none → ∀ E', Dd.rt v E') → loopD wg wb Dd ds E
  | [], s, E, _, hi, h1, _ => h1 s rfl E hi
  | d :: ds, s, E, hd, hi, h1, h2 => by
    refine hstep s d E _ (hd d List.mem_cons_self) hi (fun s' e E' hi' => ?_) fun e => ?_
    · refine loop_ok Inv f v ok hstep ds s' E' (fun d hm => hd d (List.mem_cons_of_mem _ hm)) hi' (fun s2 e2 => h1 s2 ?_) fun e2 => h2 ?_
      · rw [List.foldlM_cons, e]; exact e2
      · rw [List.foldlM_cons, e]; exact e2
    · refine h2 ?_
      rw [List.foldlM_cons, e]
      rfl
/-- a comprehension whose steps are pure: g tells what is kept -/
theorem comp_ok {wg : WG} {wt : WT} {we : WE} {vs : List Nat} {Q : List D → Env' → Prop} {E : Env'} (g : D → Option D)
    : ∀ (ds acc : List D), (∀ d ∈ ds, ∀ (C : D → Env' → Prop) (N : Env' → Prop), (∀ y, g d = some y → C y E) → (g d = none → N E) →
      wg d E fun E1 => wt E1 fun b E2 => if b = true then we E2 fun x E3 => onD x fun y => C y (wipeE E3 vs) else N (wipeE E2 vs)) → Q (acc ++ ds.filterMap g) E → compD wg wt we vs Q ds acc E
  | [], acc, _, h => by
    rw [List.filterMap_nil, List.append_nil] at h
    exact h
  | d :: ds, acc, hs, h => by
    refine hs d List.mem_cons_self (fun y E' => compD wg wt we vs Q ds (acc ++ [y]) E') (fun E' => compD wg wt we vs Q ds acc E') (fun y e => ?_) fun e => ?_
    · refine comp_ok g ds (acc ++ [y]) (fun d hm => hs d (List.mem_cons_of_mem _ hm)) ?_
      rw [List.filterMap_cons, e] at h
      rw [List.append_assoc]
      exact h
    · refine comp_ok g ds acc (fun d hm => hs d (List.mem_cons_of_mem _ hm)) ?_
      rw [List.filterMap_cons, e] at h
      exact h
/-- one that keeps all -/
theorem comp_map {wg : WG} {we : WE} {vs : List Nat} {Q : List D → Env' → Prop} {E : Env'} (g : D → D) (ds : List D) (hs : ∀ d ∈ ds, ∀ (C : D → Env' → Prop), C (g d) E → wg d E fun E1 => we E1 fun x E3 => onD x fun y => C y (wipeE E3 vs)) (h : Q (ds.map g) E) : compD wg wYes we vs Q ds [] E := by
  refine comp_ok (fun d => some (g d)) ds [] (fun d hm C N hc _ => ?_) ?_
  · have := hs d hm C (hc _ rfl)
    unfold wYes
    simpa using this
  · rw [List.nil_append]
    have e : ds.filterMap (fun d => some (g d)) = ds.map g := by
      induction ds with
      | nil => rfl
      | cons d ds ih => simp
    rw [e]
    exact h
theorem bools_map {α : Type} (f : α → Bool) : ∀ l : List α, bools (l.map fun x => .bool (f x)) = some (l.map f)
  | [] => rfl
  | x :: l => by
    show (bools (l.map fun x => .bool (f x))).map (f x :: ·) = _
    rw [bools_map f l]
    rfl
section
variable {E : Env'} {Q : VD → Env' → Prop} {QT : Bool → Env' → Prop} {QA : List VD → Env' → Prop} {wa wb wc w : WE} {ta tb : WT} {ws : WA} {Dd : EndsD}
@[simp] theorem e_C {d : D} : wC d E Q = Q (.d d) E := rfl
theorem e_var {i : Nat} : wVar i E Q = match E[i]? with
  | some (.fz d) => Q (.d d) E
  | some .no => False
  | some (.fv _) => False
  | some (.vv _ d) => Q (.d d) E
  | some _ => Q (.own i) E
  | none => False := rfl
@[simp] theorem e_and : wAnd wa wb E Q = wa E fun x E1 => onB x fun k => if k = true then wb E1 Q else Q (.d (.bool false)) E1 := rfl
@[simp] theorem e_or : wOr wa wb E Q = wa E fun x E1 => onB x fun k => if k = true then Q (.d (.bool true)) E1 else wb E1 Q := rfl
@[simp] theorem e_not : wNot wa E Q = wa E fun x E1 => onB x fun k => Q (.d (.bool (!k))) E1 := rfl
@[simp] theorem e_neg : wNeg wa E Q = wa E fun x E1 => onD x fun d => onI d fun i => Q (.d (.int (-i))) E1 := rfl
@[simp] theorem e_bin {f : F2} : wBin f wa wb E Q = wa E fun x E1 => wb E1 fun y E2 => onO (res E2 x) fun a => onO (res E2 y) fun b => f a b fun d => Q (.d d) E2 := rfl
@[simp] theorem e_ch {f g : F2} : wCh f g wa wb wc E Q = wa E fun x E1 => wb E1 fun y E2 => onO (res E2 x) fun a => onO (res E2 y) fun b => f a b fun z => onB (.d z) fun k =>
  if k = true then wc E2 fun u E3 => onO (res E3 y) fun b' => onO (res E3 u) fun c => g b' c fun d => Q (.d d) E3 else Q (.d (.bool false)) E2 := rfl
@[simp] theorem e_B : wB w E QT = w E fun x E1 => onB x fun k => QT k E1 := rfl
@[simp] theorem e_andT : wAndT ta tb E QT = ta E fun k E1 => if k = true then tb E1 QT else QT false E1 := rfl
@[simp] theorem e_orT : wOrT ta tb E QT = ta E fun k E1 => if k = true then QT true E1 else tb E1 QT := rfl
@[simp] theorem e_notT : wNotT ta E QT = ta E fun k E1 => QT (!k) E1 := rfl
@[simp] theorem e_if : wIf ta wa wb E Q = ta E fun k E1 => if k = true then wa E1 Q else wb E1 Q := rfl
@[simp] theorem e_yes : wYes E QT = QT true E := rfl
@[simp] theorem e_nil : wNil E QA = QA [] E := rfl
@[simp] theorem e_cons : wCons w ws E QA = w E fun x E1 => ws E1 fun xs E2 => QA (x :: xs) E2 := rfl
@[simp] theorem e_tup : wTup ws E Q = ws E fun xs E1 => onO (frz xs) fun ds => ds.length ≤ 1000 ∧ Q (.d (.tuple ds)) E1 := rfl
@[simp] theorem e_lst : wLst ws E Q = ws E fun xs E1 => onO (frz xs) fun ds => ds.length ≤ 1000 ∧ Q (.d (.list ds)) E1 := rfl
@[simp] theorem e_call {f : FC} : wCall f ws E Q = ws E fun xs E1 => onO (ress E1 xs) fun ds => f ds fun d => Q (.d d) E1 := rfl
@[simp] theorem e_fun {f : PD} : wFun f ws E Q = ws E fun xs E1 => onO (frz xs) fun ds => f ds fun d => Q (.d d) E1 := rfl
@[simp] theorem e_funO {f : PO'} {i : Nat} : wFunO f i ws E Q = onDc E[i]? fun a _ => ws E fun xs E1 => onO (frz xs) fun ds => onDc E1[i]? fun a' es => a' = a ∧ f es ds fun d es' => Q (.d d) (E1.set i (.dc a es')) := rfl
@[simp] theorem e_is {g : D → Bool} : wIs g w E Q = w E fun x E1 => onD x fun d => Q (.d (.bool (g d))) E1 := rfl
@[simp] theorem e_fI {g : Int → Int → Int} {a b : D} {k : D → Prop} : fI g a b k = onI a fun i => onI b fun j => k (.int (g i j)) := rfl
@[simp] theorem e_fB {g : Int → Int → Bool} {a b : D} {k : D → Prop} : fB g a b k = onI a fun i => onI b fun j => k (.bool (g i j)) := rfl
@[simp] theorem e_fIC {C : Int → Int → Prop} {g : Int → Int → Int} {a b : D} {k : D → Prop} : fIC C g a b k = onI a fun i => onI b fun j => C i j ∧ k (.int (g i j)) := rfl
@[simp] theorem e_fEqS {a b : D} {k : D → Prop} : fEqS a b k = onO (eqS a b) fun z => k (.bool z) := rfl
@[simp] theorem e_fNeS {a b : D} {k : D → Prop} : fNeS a b k = onO (eqS a b) fun z => k (.bool (!z)) := rfl
@[simp] theorem e_fEqD {a b : D} {k : D → Prop} : fEqD a b k = (SeqAt.shaped a = true ∧ SeqAt.shaped b = true ∧ k (.bool (PyData.eqv a b))) := rfl
@[simp] theorem e_fNeD {a b : D} {k : D → Prop} : fNeD a b k = (SeqAt.shaped a = true ∧ SeqAt.shaped b = true ∧ k (.bool (!PyData.eqv a b))) := rfl
@[simp] theorem eqS_ii {i j : Int} : eqS (.int i) (.int j) = some (i == j) := rfl
@[simp] theorem eqS_ss {i j : Str} : eqS (.str i) (.str j) = some (i == j) := rfl
@[simp] theorem eqS_bb {i j : Bool} : eqS (.bool i) (.bool j) = some (i == j) := rfl
@[simp] theorem e_ixT {xs : List D} {i : Int} {k : D → Prop} : fIx (.tuple xs) (.int i) k = onO (atI xs i) k := rfl
@[simp] theorem e_ixL {xs : List D} {i : Int} {k : D → Prop} : fIx (.list xs) (.int i) k = onO (atI xs i) k := rfl
@[simp] theorem e_lenT {l : List D} {k : D → Prop} : fLen [.tuple l] k = k (.int l.length) := rfl
@[simp] theorem e_lenL {l : List D} {k : D → Prop} : fLen [.list l] k = k (.int l.length) := rfl
@[simp] theorem e_lenS {x : Str} {k : D → Prop} : fLen [.str x] k = (x.length ≤ sizeLine ∧ k (.int x.length)) := rfl
@[simp] theorem e_all {g : List Bool → Bool} {l : List D} {k : D → Prop} : fAll g [.list l] k = onO (bools l) fun bs => k (.bool (g bs)) := rfl
@[simp] theorem e_tupleL {l : List D} {k : D → Prop} : fTuple [.list l] k = k (.tuple l) := rfl
@[simp] theorem e_tupleT {l : List D} {k : D → Prop} : fTuple [.tuple l] k = k (.tuple l) := rfl
@[simp] theorem e_listL {l : List D} {k : D → Prop} : fList [.list l] k = k (.list l) := rfl
@[simp] theorem e_listT {l : List D} {k : D → Prop} : fList [.tuple l] k = k (.list l) := rfl
@[simp] theorem e_catT {l m : List D} {k : D → Prop} : fCat (.tuple l) (.tuple m) k = (l.length + m.length ≤ 1000000 ∧ k (.tuple (l ++ m))) := rfl
@[simp] theorem e_catL {l m : List D} {k : D → Prop} : fCatL (.list l) (.list m) k = (l.length + m.length ≤ 1000000 ∧ k (.list (l ++ m))) := rfl
@[simp] theorem e_2I {g : Int → Int → Int} {i j : Int} {k : D → Prop} : f2I g [.int i, .int j] k = k (.int (g i j)) := rfl
@[simp] theorem e_1I {g : Int → Int} {i : Int} {k : D → Prop} : f1I g [.int i] k = k (.int (g i)) := rfl
@[simp] theorem e_intI {i : Int} {k : D → Prop} : fInt [.int i] k = k (.int i) := rfl
@[simp] theorem e_intB {i : Bool} {k : D → Prop} : fInt [.bool i] k = k (.int (if i then 1 else 0)) := rfl
@[simp] theorem e_lc {wi : WI} {wg : WG} {wt : WT} {we : WE} {vs : List Nat} : wLc wi wg wt we vs E Q = wi E fun ds E1 => ds.length ≤ 1000000 ∧ freeB E1 vs = true ∧ compD wg wt we vs (fun acc E2 => Q (.d (.list acc)) (backE E1 E2 vs)) ds [] (wipeE E1 vs) := rfl
@[simp] theorem e_iTup {QI : List D → Env' → Prop} : wiTup w E QI = w E fun x E1 => onD x fun d => match d with
  | .tuple ds => QI ds E1
  | _ => False := rfl
@[simp] theorem e_iList {QI : List D → Env' → Prop} : wiList w E QI = w E fun x E1 => onD x fun d => match d with
  | .list ds => QI ds E1
  | _ => False := rfl
@[simp] theorem e_iStr {QI : List D → Env' → Prop} : wiStr w E QI = w E fun x E1 => onD x fun d => match d with
  | .str z => QI (strD z) E1
  | _ => False := rfl
@[simp] theorem e_gName {i : Nat} {d : D} {k : Env' → Prop} : wgName i d E k = k (E.set i (.fz d)) := rfl
@[simp] theorem e_gTup {n : Nat} {wg : WGs} {ds : List D} {k : Env' → Prop} : wgTup n wg (.tuple ds) E k = (ds.length = n ∧ wg ds E k) := rfl
@[simp] theorem e_gCons {wg : WG} {wgs : WGs} {d : D} {ds : List D} {k : Env' → Prop} : wgCons wg wgs (d :: ds) E k = wg d E fun E1 => wgs ds E1 k := rfl
@[simp] theorem e_gNil {k : Env' → Prop} : wgNil [] E k = k E := by
  unfold wgNil
  simp
@[simp] theorem e_seq {u v : WS} : wSeq u v Dd E = u { Dd with nx := v Dd } E := rfl
@[simp] theorem e_ifS {u v : WS} : wIfS ta u v Dd E = ta E fun z E1 => if z = true then u Dd E1 else v Dd E1 := rfl
@[simp] theorem e_nx : wNx Dd E = Dd.nx E := rfl
@[simp] theorem e_drop : wDrop w Dd E = w E fun _ E1 => Dd.nx E1 := rfl
@[simp] theorem e_for {wi : WI} {wg : WG} {wb : WS} : wFor wi wg wb Dd E = wi E fun ds E1 => loopD wg wb Dd ds E1 := rfl
@[simp] theorem e_set {i : Nat} {wv : WV} : wSet i wv Dd E = wv E fun s E1 => Dd.nx (E1.set i s) := rfl
@[simp] theorem e_par {i j : Nat} {wv wu : WV} : wPar i j wv wu Dd E = wv E fun s E1 => wu E1 fun u E2 => Dd.nx ((E2.set i s).set j u) := rfl
@[simp] theorem e_fz {k : Sl → Env' → Prop} : wFz w E k = w E fun x E1 => onD x fun d => k (.fz d) E1 := rfl
@[simp] theorem e_newK {k : Sl → Env' → Prop} : wNewK E k = k (.od []) E := rfl
@[simp] theorem e_ol {k : Sl → Env' → Prop} : wOl ws E k = ws E fun xs E1 => onO (frz xs) fun ds => ds.length ≤ 1000 ∧ k (.ol ds) E1 := rfl
@[simp] theorem e_asg {wg : WG} : wAsg w wg Dd E = w E fun x E1 => onD x fun d => wg d E1 Dd.nx := rfl
@[simp] theorem e_ret : wRet w Dd E = w E fun x E1 => match x with
  | .d d => Dd.rt d E1
  | .own i => match E1[i]? with
    | some (.ol ds) => Dd.rt (.list ds) E1
    | _ => False := rfl
@[simp] theorem e_noPart {k : Option Int → Env' → Prop} : wNoPart E k = k none E := rfl
@[simp] theorem e_part {k : Option Int → Env' → Prop} : wPart w E k = w E fun x E1 => onD x fun d => onI d fun i => k (some i) E1 := rfl
@[simp] theorem e_slT {wl wh : WO} : wSlT w wl wh E Q = w E fun x E1 => wl E1 fun l E2 => wh E2 fun h E3 => onD x fun d => match d with
  | .tuple xs => Q (.d (.tuple (cutD xs l h))) E3
  | _ => False := rfl
@[simp] theorem e_zipT {QI : List D → Env' → Prop} : wiZipT ws E QI = ws E fun xs E1 => onO (frz xs) fun ds => match ds with
  | [.tuple xs, .tuple ys] => QI (zipD xs ys) E1
  | _ => False := rfl
@[simp] theorem e_enumT {QI : List D → Env' → Prop} : wiEnumT w E QI = w E fun x E1 => onD x fun d => match d with
  | .tuple ds => QI (enumD ds) E1
  | _ => False := rfl
end
end AF

set_option Elab.async false
set_option linter.all false
set_option maxRecDepth 100000
set_option maxHeartbeats 4000000
namespace AF
open PySem PySem.Spec PyProof.Rows L2
def wholeB : D → Bool
  | .int _ => true
  | _ => false
def G60 : Int := 1000000000000000000000000000000000000000000000000000000000000
theorem G60_eq : G60 = 1000000000000000000000000000000000000000000000000000000000000 := rfl
def shortB : D → Bool
  | .int i => decide (-G60 < i) && decide (i < G60)
  | _ => false
def tickB : D → Bool
  | .int i => decide (0 ≤ i) && decide (i < G60)
  | _ => false
theorem p_is_whole {d : D} {R : D → Prop} (h : R (.bool (wholeB d))) : P_is_whole [d] R := by
  refine ⟨rfl, ?_⟩
  cases d <;> simpa [W_is_whole, e_var, startE, endD, isInt, isBool, wholeB] using h
theorem rB {R : D → Prop} {a b : Bool} (h : R (.bool a)) (e : a = b) : R (.bool b) := e ▸ h
theorem p_is_short {d : D} {R : D → Prop} (h : R (.bool (shortB d))) : P_is_short [d] R := by
  refine ⟨rfl, ?_⟩
  simp [W_is_short, e_var, startE, endD]
  apply p_is_whole
  cases d <;> try (simpa [wholeB, shortB] using h)
  rename_i i
  simp [wholeB]
  by_cases h1 : -1000000000000000000000000000000000000000000000000000000000000 < i
  · simp [h1]
    refine rB h (Bool.eq_iff_iff.mpr ?_)
    simp [shortB]
    have hG := G60_eq
    omega
  · simp [h1]
    refine rB h (Bool.eq_iff_iff.mpr ?_)
    simp [shortB]
    have hG := G60_eq
    omega
theorem p_is_tick {d : D} {R : D → Prop} (h : R (.bool (tickB d))) : P_is_tick [d] R := by
  refine ⟨rfl, ?_⟩
  simp [W_is_tick, e_var, startE, endD]
  apply p_is_short
  cases d <;> try (simpa [shortB, tickB] using h)
  rename_i i
  simp
  cases z : shortB (.int i) with
  | false =>
    simp
    refine rB h (Bool.eq_iff_iff.mpr ?_)
    have z : ¬ (shortB (.int i) = true) := by rw [z]; simp
    simp [shortB] at z
    simp [tickB]
    have hG := G60_eq
    omega
  | true =>
    simp
    refine rB h (Bool.eq_iff_iff.mpr ?_)
    simp [shortB] at z
    simp [tickB]
    have hG := G60_eq
    omega
theorem p_is_from {v lo hi : Int} {R : D → Prop} (h : R (.bool (decide (lo ≤ v) && decide (v ≤ hi)))) : P_is_from [.int v, .int lo, .int hi] R := by
  refine ⟨rfl, ?_⟩
  simp [W_is_from, e_var, startE, endD]
  apply p_is_whole
  simp [wholeB]
  by_cases h1 : lo ≤ v
  · simp [h1]
    refine rB h ?_
    simp [h1]
  · simp [h1]
    refine rB h ?_
    simp [h1]
/-! ### keys -/
def abc : Str := "abcdefghijklmnopqrstuvwxyz"
def keyS (x : Str) : Bool := decide (1 ≤ x.length) && decide (x.length ≤ 8) && x.cps.toList.all fun c => decide (c ∈ abc.cps.toList)
def keyB : D → Bool
  | .str x => keyS x
  | _ => false
/-- data whose texts are short -/
def shS : D → Prop
  | .str x => x.length ≤ 1000
  | _ => True
def signD : D → D
  | .str y => .bool (y.cps.toList.all fun c => decide (c ∈ abc.cps.toList))
  | _ => .none
theorem map_signD (x : Str) : (strD x).map signD = x.cps.toList.map fun c => .bool (decide (c ∈ abc.cps.toList)) := by
  unfold strD
  rw [List.map_map]
  apply List.map_congr_left
  intro c _
  show signD (.str ⟨#[c]⟩) = _
  unfold signD
  simp
theorem p_is_key {d : D} {R : D → Prop} (hs : shS d) (h : R (.bool (keyB d))) : P_is_key [d] R := by
  refine ⟨rfl, ?_⟩
  simp [W_is_key, e_var, startE, endD]
  cases d <;> try (simpa [isStr, keyB] using h)
  rename_i x
  simp [isStr]
  have hs : x.length ≤ 1000 := hs
  refine ⟨line1000 hs, ?_⟩
  by_cases h1 : 1 ≤ (x.length : Int)
  · simp [h1]
    by_cases h2 : (x.length : Int) ≤ 8
    · simp [h2]
      refine ⟨?_, rfl, ?_⟩
      · unfold strD
        rw [List.length_map]
        have : x.cps.toList.length = x.length := by simp [Str.length]
        omega
      · refine comp_map signD _ (fun d hd C hc => ?_) ?_
        · unfold strD at hd
          obtain ⟨c, hc', rfl⟩ := List.mem_map.mp hd
          simp [wipeE, fInSign]
          refine ⟨c, rfl, ?_⟩
          simpa [abc, wipeE, signD] using hc
        · rw [map_signD]
          rw [bools_map]
          refine rB h (Bool.eq_iff_iff.mpr ?_)
          simp [keyB, keyS]
          omega
    · simp [h2]
      refine rB h (Bool.eq_iff_iff.mpr ?_)
      simp [keyB, keyS]
      omega
  · simp [h1]
    refine rB h (Bool.eq_iff_iff.mpr ?_)
    simp [keyB, keyS]
    omega
end AF

set_option Elab.async false
set_option linter.all false
set_option maxRecDepth 100000
set_option maxHeartbeats 4000000
namespace AF
open PySem PySem.Spec PyProof.Rows L2
theorem cut_from (xs : List D) (n : Nat) : cutD xs (some (n : Int)) none = xs.drop n := by
  unfold cutD
  rw [HT.sIx_nat, HT.sIx_none]
  by_cases h : n ≤ xs.length
  · rw [Nat.min_eq_left h, List.take_of_length_le (by rw [List.length_drop]; omega)]
  · rw [Nat.min_eq_right (by omega), List.drop_of_length_le (Nat.le_refl _), List.drop_of_length_le (by omega)]
    simp
theorem cut_to (xs : List D) (n : Nat) : cutD xs none (some (n : Int)) = xs.take n := by
  unfold cutD
  rw [HT.sIx_nat, HT.sIx_none]
  show (xs.drop 0).take (min n xs.length - 0) = _
  rw [List.drop_zero, Nat.sub_zero]
  by_cases h : n ≤ xs.length
  · rw [Nat.min_eq_left h]
  · rw [Nat.min_eq_right (by omega), List.take_of_length_le (Nat.le_refl _), List.take_of_length_le (by omega)]
theorem cut_from1 (xs : List D) : cutD xs (some 1) none = xs.drop 1 := cut_from xs 1
theorem cut_last (xs : List D) : cutD xs none (some (-1)) = xs.take (xs.length - 1) := by
  unfold cutD
  have e : HT.sIx xs.length xs.length (some (-1)) = xs.length - 1 := by
    show (if (-1 : Int) < 0 then (-1 + (xs.length : Int)).toNat else min (-1 : Int).toNat xs.length) = _
    rw [if_pos (by decide)]
    omega
  rw [e, HT.sIx_none, List.drop_zero, Nat.sub_zero]
theorem cut_end (xs : List D) : cutD xs (some (-1)) none = xs.drop (xs.length - 1) := by
  unfold cutD
  have e : HT.sIx xs.length 0 (some (-1)) = xs.length - 1 := by
    show (if (-1 : Int) < 0 then (-1 + (xs.length : Int)).toNat else min (-1 : Int).toNat xs.length) = _
    rw [if_pos (by decide)]
    omega
  rw [e, HT.sIx_none, List.take_of_length_le (by rw [List.length_drop]; omega)]
/-- neighbours -/
theorem zip_next {α : Type} (f : α → D) (l : List α) : zipD (l.map f) ((l.map f).drop 1) = (l.zip (l.drop 1)).map fun p => .tuple [f p.1, f p.2] := by
  unfold zipD
  rw [← List.map_drop, List.zipWith_map, List.zip, List.map_zipWith]
theorem next_all {α : Type} {R : α → α → Bool} : ∀ (l : List α), l.Pairwise (fun a b => R a b = true) → ((l.zip (l.drop 1)).all fun p => R p.1 p.2) = true
  | [], _ => rfl
  | [a], _ => rfl
  | a :: b :: l, h => by
    have h2 := next_all (b :: l) (List.pairwise_cons.mp h).2
    show ((((a, b) :: (b :: l).zip ((b :: l).drop 1))).all fun p => R p.1 p.2) = true
    rw [List.all_cons, h2, (List.pairwise_cons.mp h).1 b List.mem_cons_self]
    rfl
theorem next_len {α : Type} (l : List α) : (l.zip (l.drop 1)).length ≤ l.length := by
  rw [List.length_zip]; omega
@[simp] theorem wipe_nil {E : Env'} : wipeE E [] = E := rfl
@[simp] theorem wipe_cons {E : Env'} {v : Nat} {vs : List Nat} : wipeE E (v :: vs) = (wipeE E vs).set v .no := rfl
@[simp] theorem back_nil {E E' : Env'} : backE E E' [] = E' := rfl
@[simp] theorem back_cons {E E' : Env'} {v : Nat} {vs : List Nat} : backE E E' (v :: vs) = (backE E E' vs).set v ((E[v]?).getD .no) := rfl
structure KsOk (ks : List Str) : Prop where
  lo : 1 ≤ ks.length
  hi : ks.length ≤ 6
  key : ∀ k ∈ ks, keyS k = true
  asc : ks.Pairwise fun a b => decide (a.cps.toList < b.cps.toList) = true
theorem shS_key {k : Str} (h : keyS k = true) : shS (.str k) := by
  unfold keyS at h
  simp at h
  show k.length ≤ 1000
  omega
@[simp] theorem isTuple_t {l : List D} : isTuple (.tuple l) = true := rfl
theorem comp_mapsA {α : Type} {wg : WG} {we : WE} {vs : List Nat} {Q : List D → Env' → Prop} {E : Env'} (f g : α → D) : ∀ (l : List α) (acc : List D),
    (∀ a ∈ l, ∀ C : D → Env' → Prop, C (g a) E → wg (f a) E fun E1 => we E1 fun x E3 => onD x fun y => C y (wipeE E3 vs)) → Q (acc ++ l.map g) E → compD wg wYes we vs Q (l.map f) acc E
  | [], acc, _, h => by
    rw [List.map_nil, List.append_nil] at h
    exact h
  | a :: l, acc, hs, h => by
    have := hs a List.mem_cons_self (fun y E' => compD wg wYes we vs Q (l.map f) (acc ++ [y]) E') (comp_mapsA f g l (acc ++ [g a]) (fun b hb => hs b (List.mem_cons_of_mem _ hb)) (by
      rw [List.map_cons] at h
      rw [List.append_assoc]
      exact h))
    show wg (f a) E _
    simpa using this
theorem comp_bools {α : Type} {wg : WG} {we : WE} {vs : List Nat} {Q : List D → Env' → Prop} {E : Env'} (f : α → D) (g : α → Bool) (l : List α)
    (hs : ∀ a ∈ l, ∀ C : D → Env' → Prop, C (.bool (g a)) E → wg (f a) E fun E1 => we E1 fun x E3 => onD x fun y => C y (wipeE E3 vs)) (h : Q (l.map fun a => .bool (g a)) E) : compD wg wYes we vs Q (l.map f) [] E :=
  comp_mapsA f (fun a => .bool (g a)) l [] hs h
theorem all_id {α : Type} (g : α → Bool) (l : List α) : (l.map g).all id = l.all g := by
  rw [List.all_map]; rfl
theorem p_are_keys {ks : List Str} {R : D → Prop} (hk : KsOk ks) (h : R (.bool true)) : P_are_keys [.tuple (ks.map .str)] R := by
  refine ⟨rfl, ?_⟩
  have h1 := hk.lo
  have h2 := hk.hi
  simp [W_are_keys, e_var, startE, endD]
  have g1 : (1 : Int) ≤ ks.length := by omega
  have g2 : (ks.length : Int) ≤ 6 := by omega
  simp [g1, g2]
  refine ⟨by omega, rfl, ?_⟩
  refine comp_bools PyData.str (fun _ => true) _ (fun k hm C hc => ?_) ?_
  · simp
    apply p_is_key (shS_key (hk.key k hm))
    simp [keyB, hk.key k hm]
    simpa using hc
  · rw [bools_map]
    simp
    rw [cut_from1, zip_next]
    have hl := next_len ks
    refine ⟨by rw [List.length_map]; omega, rfl, ?_⟩
    refine comp_bools _ (fun p => decide (p.1.cps.toList < p.2.cps.toList)) _ (fun p hm C hc => ?_) ?_
    · simp [fLtS, e_var]
      simpa using hc
    · rw [bools_map]
      simp only [onO_some]
      rw [all_id, next_all ks hk.asc]
      exact h
/-! ### reads -/
structure RdOk (rs : Reads) : Prop where
  len : rs.length ≤ 60
  tick : ∀ p ∈ rs, 0 ≤ p.1 ∧ p.1 < G60
  keys : ∀ p ∈ rs, KsOk p.2
  asc : rs.Pairwise fun p q => decide (p.1 ≤ q.1) = true
@[simp] theorem at0 {a : D} {l : List D} : atI (a :: l) 0 = some a := atI_nat (j := 0) rfl
@[simp] theorem at1 {a b : D} {l : List D} : atI (a :: b :: l) 1 = some b := atI_nat (j := 1) rfl
theorem p_is_read {p : Int × List Str} {R : D → Prop} (ht : 0 ≤ p.1 ∧ p.1 < G60) (hk : KsOk p.2) (h : R (.bool true)) : P_is_read [readD p] R := by
  refine ⟨rfl, ?_⟩
  simp [W_is_read, e_var, startE, endD, readD]
  apply p_is_tick
  simp [tickB, ht]
  exact p_are_keys hk h
theorem p_are_reads {rs : Reads} {R : D → Prop} (hr : RdOk rs) (h : R (.bool true)) : P_are_reads [readsD rs] R := by
  refine ⟨rfl, ?_⟩
  have h1 := hr.len
  simp [W_are_reads, e_var, startE, endD, readsD]
  have g1 : ¬ (60 : Int) < rs.length := by omega
  simp [g1]
  refine ⟨by omega, rfl, ?_⟩
  refine comp_bools readD (fun _ => true) _ (fun k hm C hc => ?_) ?_
  · simp
    apply p_is_read (hr.tick k hm) (hr.keys k hm)
    simpa using hc
  · rw [bools_map]
    simp
    rw [cut_from1, zip_next]
    have hl := next_len rs
    refine ⟨by rw [List.length_map]; omega, rfl, ?_⟩
    refine comp_bools _ (fun p => decide (p.1.1 ≤ p.2.1)) _ (fun p hm C hc => ?_) ?_
    · simp [readD, e_var]
      simpa using hc
    · rw [bools_map]
      simp only [onO_some]
      rw [all_id, next_all rs hr.asc]
      exact h
end AF

set_option Elab.async false
set_option linter.all false
set_option maxRecDepth 100000
set_option maxHeartbeats 4000000
namespace AF
open PySem PySem.Spec PyProof.Rows L2
/-! ### the shape of data -/
def LD (n : Nat) (d : D) : Prop := PyData.canLay0 d = true ∧ PyData.depth d ≤ n
theorem LD.shaped {n : Nat} {d : D} (h : LD n d) (hn : n ≤ 64) : SeqAt.shaped d = true := by
  unfold SeqAt.shaped
  rw [h.1, decide_eq_true (Nat.le_trans h.2 hn)]
  rfl
theorem LD.mono {n m : Nat} {d : D} (h : LD n d) (hn : n ≤ m) : LD m d := ⟨h.1, Nat.le_trans h.2 hn⟩
theorem ld_int (i : Int) : LD 0 (.int i) := by
  constructor <;> simp [PyData.canLay0, PyData.depth]
theorem ld_bool (i : Bool) : LD 0 (.bool i) := by
  constructor <;> simp [PyData.canLay0, PyData.depth]
theorem ld_none : LD 0 .none := by
  constructor <;> simp [PyData.canLay0, PyData.depth]
theorem ld_all {n : Nat} : ∀ {l : List D}, (∀ d ∈ l, LD n d) → PyData.canLayAll0 l = true ∧ PyData.depthAll l ≤ n
  | [], _ => by constructor <;> simp [PyData.canLayAll0, PyData.depthAll]
  | d :: l, h => by
    obtain ⟨a, b⟩ := h d List.mem_cons_self
    obtain ⟨a2, b2⟩ := ld_all fun x hx => h x (List.mem_cons_of_mem _ hx)
    constructor
    · simp [PyData.canLayAll0, a, a2]
    · simp [PyData.depthAll]
      omega
theorem ld_list {n : Nat} {l : List D} (h : ∀ d ∈ l, LD n d) : LD (n + 1) (.list l) := by
  obtain ⟨a, b⟩ := ld_all h
  constructor
  · simpa [PyData.canLay0] using a
  · simp [PyData.depth]; omega
theorem ld_tuple {n : Nat} {l : List D} (h : ∀ d ∈ l, LD n d) : LD (n + 1) (.tuple l) := by
  obtain ⟨a, b⟩ := ld_all h
  constructor
  · simpa [PyData.canLay0] using a
  · simp [PyData.depth]; omega
theorem abc_small : ∀ c ∈ abc.cps.toList, c < 0x110000 := by decide
theorem ld_key {k : Str} (h : keyS k = true) : LD 0 (.str k) := by
  constructor
  · unfold keyS at h
    simp only [Bool.and_eq_true, List.all_eq_true, decide_eq_true_eq] at h
    show PyData.strOk k = true
    unfold PyData.strOk
    rw [Array.all_eq_true_iff_forall_mem]
    intro c hc
    exact decide_eq_true (abc_small c (h.2 c (Array.mem_toList_iff.mpr hc)))
  · simp [PyData.depth]
/-! ### marks -/
def markB : D → Bool
  | .tuple [.int i, .str x] => tickB (.int i) && keyS x
  | _ => false
def shM : D → Prop
  | .tuple [_, y] => shS y
  | _ => True
theorem p_is_mark {d : D} {R : D → Prop} (hs : shM d) (h : R (.bool (markB d))) : P_is_mark [d] R := by
  refine ⟨rfl, ?_⟩
  simp [W_is_mark, e_var, startE, endD]
  cases d <;> try (simpa [isTuple, markB] using h)
  rename_i l
  match l, hs, h with
  | [], _, h => simpa [markB] using h
  | [a], _, h => simpa [markB] using h
  | a :: b :: c :: l, _, h =>
    simp
    have : ¬ ((l.length : Int) + 1 + 1 + 1 = 2) := by omega
    simp [this]
    simpa [markB] using h
  | [a, b], hs, h =>
    simp
    apply p_is_tick
    simp
    cases e : tickB a with
    | false =>
      simp
      refine rB h ?_
      cases a <;> cases b <;> simp_all [markB]
    | true =>
      simp
      apply p_is_key hs
      refine rB h ?_
      cases a <;> simp [tickB] at e
      cases b <;> simp [markB, keyB, tickB, e]
/-- the pair of a mark -/
def isM : D → Option IS
  | .tuple [.int i, .str x] => some (i, x)
  | _ => none
theorem isM_of {d : D} {p : IS} (h : isM d = some p) : d = pD p := by
  unfold isM at h
  split at h
  · cases h; rfl
  · cases h
@[simp] theorem isM_pD (p : IS) : isM (pD p) = some p := rfl
def inMb (rs : Reads) (p : IS) : Bool := rs.any fun r => decide (r.1 = p.1) && r.2.any fun k => decide (k = p.2)
def okM (rs : Reads) (d : D) : Bool := match isM d with
  | some p => inMb rs p
  | none => false
def unM (d : D) : IS := (isM d).getD (0, ⟨#[]⟩)
def ascB (ps : List IS) : Bool := (ps.zip (ps.drop 1)).all fun q => ltIS q.1 q.2
def ofB (rs : Reads) : D → Bool
  | .tuple ds => ds.all (okM rs) && ascB (ds.map unM)
  | _ => false
theorem okM_pD {rs : Reads} {d : D} (h : okM rs d = true) : d = pD (unM d) := by
  unfold okM at h
  unfold unM
  cases e : isM d with
  | none => rw [e] at h; cases h
  | some p => exact isM_of e
theorem markB_pD {d : D} (h : markB d = true) : d = pD (unM d) := by
  unfold markB at h
  split at h
  · rfl
  · cases h
theorem map_pD {ds : List D} {f : D → Bool} (hf : ∀ d, f d = true → d = pD (unM d)) (h : ds.all f = true) : ds = (ds.map unM).map pD := by
  rw [List.map_map]
  conv => lhs; rw [← List.map_id ds]
  apply List.map_congr_left
  intro d hd
  exact hf d (List.all_eq_true.mp h d hd)
theorem inM_mark {rs : Reads} (hr : RdOk rs) {p : IS} (h : inMb rs p = true) : markB (pD p) = true := by
  unfold inMb at h
  simp only [List.any_eq_true, Bool.and_eq_true, decide_eq_true_eq] at h
  obtain ⟨r, hm, e, k, hk, e2⟩ := h
  have h1 := hr.tick r hm
  have h2 := (hr.keys r hm).key k hk
  show (tickB (.int p.1) && keyS p.2) = true
  rw [← e, ← e2, h2]
  simp [tickB, h1]
theorem okM_mark {rs : Reads} (hr : RdOk rs) {d : D} (h : okM rs d = true) : markB d = true := by
  have e := okM_pD h
  rw [e] at h
  rw [e]
  exact inM_mark hr h
/-! ### dictionaries -/
section
variable {κ : Type} [DecidableEq κ]
theorem get_map {k : κ} {d : D} {k' : κ} : ∀ (kvs : List (κ × D)), getD (kvs.map fun kv => if kv.1 = k then (kv.1, d) else kv) k' = if k = k' then (if (kvs.any fun kv => decide (kv.1 = k)) = true then some d else none) else getD kvs k'
  | [] => by simp [getD]
  | (a, b) :: kvs => by
    have ih := get_map (k := k) (d := d) (k' := k') kvs
    unfold getD at ih ⊢
    by_cases h1 : a = k
    · subst h1
      by_cases h2 : a = k'
      · subst h2
        simp
      · simp [h2] at ih ⊢
        exact ih
    · by_cases h2 : a = k'
      · subst h2
        have : ¬ k = a := fun e => h1 e.symm
        simp [h1, this]
      · simp only [List.map_cons, if_neg h1, List.find?_cons, decide_eq_false h2, List.any_cons, decide_eq_false h1, Bool.false_or]
        exact ih
theorem get_put (kvs : List (κ × D)) (k : κ) (d : D) (k' : κ) : getD (putD kvs k d) k' = if k = k' then some d else getD kvs k' := by
  unfold putD
  by_cases h : (kvs.any fun kv => decide (kv.1 = k)) = true
  · rw [if_pos h, get_map, if_pos h]
  · rw [if_neg h]
    unfold getD
    rw [List.find?_append]
    by_cases h2 : k = k'
    · subst h2
      have : kvs.find? (fun kv => decide (kv.1 = k)) = none := by
        rw [List.find?_eq_none]
        intro x hx hc
        exact h (List.any_eq_true.mpr ⟨x, hx, hc⟩)
      simp [this]
    · simp [h2]
theorem put_len (kvs : List (κ × D)) (k : κ) (d : D) : (putD kvs k d).length ≤ kvs.length + 1 := by
  unfold putD
  split <;> simp
end
theorem adds_get (r : Int) (i : Int) (x : Str) : ∀ (xs : List Str) (acc : List (List Key × D)),
    (getD (addsK acc r xs) [.inl i, .inr x]).isSome = ((getD acc [.inl i, .inr x]).isSome || (decide (r = i) && xs.any fun k => decide (k = x)))
  | [], acc => by simp [addsK]
  | y :: xs, acc => by
    have ih := adds_get r i x xs (addK acc r y)
    show (getD (addsK (addK acc r y) r xs) _).isSome = _
    rw [ih]
    unfold addK
    rw [get_put]
    by_cases h1 : r = i
    · by_cases h2 : y = x
      · simp [h1, h2]
      · simp [h1, h2]
    · simp [h1]
theorem marks_getA (i : Int) (x : Str) : ∀ (rs : Reads) (acc : List (List Key × D)),
    (getD (rs.foldl (fun acc p => addsK acc p.1 p.2) acc) [.inl i, .inr x]).isSome = ((getD acc [.inl i, .inr x]).isSome || inMb rs (i, x))
  | [], acc => by simp [inMb]
  | r :: rs, acc => by
    rw [List.foldl_cons, marks_getA i x rs, adds_get]
    unfold inMb
    rw [List.any_cons, Bool.or_assoc]
theorem marks_get (rs : Reads) (p : IS) : (getD (marksK rs) [.inl p.1, .inr p.2]).isSome = inMb rs p := by
  unfold marksK
  rw [marks_getA]
  simp [getD]
theorem sizeR_le {rs : Reads} (h : ∀ p ∈ rs, KsOk p.2) : sizeR rs ≤ 6 * rs.length := by
  unfold sizeR
  induction rs with
  | nil => simp
  | cons r rs ih =>
    have := (h r List.mem_cons_self).hi
    have h2 := ih fun p hp => h p (List.mem_cons_of_mem _ hp)
    rw [List.map_cons, List.sum_cons, List.length_cons]
    omega
theorem comp_boolsD {wg : WG} {we : WE} {vs : List Nat} {Q : List D → Env' → Prop} {E : Env'} (g : D → Bool) (l : List D)
    (hs : ∀ a ∈ l, ∀ C : D → Env' → Prop, C (.bool (g a)) E → wg a E fun E1 => we E1 fun x E3 => onD x fun y => C y (wipeE E3 vs)) (h : Q (l.map fun a => .bool (g a)) E) : compD wg wYes we vs Q l [] E := by
  have := comp_bools (wg := wg) (we := we) (vs := vs) (Q := Q) (E := E) id g l hs h
  rw [List.map_id] at this
  exact this
theorem false_mem {α : Type} (g : α → Bool) (l : List α) : (false ∈ l.map g) ↔ l.all g = false := by
  rw [List.all_eq_false, List.mem_map]
  constructor
  · rintro ⟨a, h1, h2⟩
    exact ⟨a, h1, by rw [h2]; decide⟩
  · rintro ⟨a, h1, h2⟩
    exact ⟨a, h1, by simpa using h2⟩
/-- values near marks -/
def nearV : D → Prop
  | .tuple ds => ds.length ≤ 1000 ∧ ∀ d ∈ ds, shM d
  | _ => True
theorem p_are_marks_of {rs : Reads} {v : D} {R : D → Prop} (hr : RdOk rs) (hv : nearV v) (h : R (.bool (ofB rs v))) : P_are_marks_of [readsD rs, v] R := by
  refine ⟨rfl, ?_⟩
  simp [W_are_marks_of, e_var, startE, endD]
  cases v <;> try (simpa [isTuple, ofB] using h)
  rename_i ds
  obtain ⟨h1, h2⟩ := hv
  simp
  refine ⟨by omega, rfl, ?_⟩
  refine comp_boolsD markB _ (fun d hd C hc => ?_) ?_
  · simp [e_var]
    apply p_is_mark (h2 d hd)
    simpa using hc
  rw [bools_map]
  simp only [onO_some, false_mem]
  by_cases hm : ds.all markB = true
  case neg =>
    have hm2 : ds.all markB = false := by simpa using hm
    rw [if_pos hm2]
    refine rB h ?_
    show (ds.all (okM rs) && _) = false
    have : ds.all (okM rs) = false := by
      rw [List.all_eq_false] at hm2 ⊢
      obtain ⟨d, hd, hx⟩ := hm2
      exact ⟨d, hd, fun ho => hx (okM_mark hr ho)⟩
    rw [this]; rfl
  have hm2 : ¬ ds.all markB = false := by rw [hm]; decide
  rw [if_neg hm2]
  have ed := map_pD (fun d => markB_pD) hm
  generalize hps : ds.map unM = ps at ed
  have hlen : ds.length = ps.length := by rw [← hps, List.length_map]
  subst ed
  simp [e_var]
  rw [cut_from1, zip_next]
  have hl := next_len ps
  rw [List.length_map] at h1
  refine ⟨by rw [List.length_map]; omega, rfl, ?_⟩
  refine comp_bools _ (fun p => ltIS p.1 p.2) _ (fun p hm C hc => ?_) ?_
  · simp [e_var, fPIS]
    exact ⟨p.1.1, p.1.2, rfl, p.2.1, p.2.2, rfl, hc⟩
  rw [bools_map]
  simp only [onO_some, false_mem]
  have eo : ofB rs (.tuple (ps.map pD)) = (ps.all (inMb rs) && ascB ps) := by
    show ((ps.map pD).all (okM rs) && ascB ((ps.map pD).map unM)) = _
    rw [hps, List.all_map]
    rfl
  rw [eo] at h
  by_cases ha : ascB ps = true
  case neg =>
    have ha2 : ascB ps = false := by simpa using ha
    rw [show (ps.zip (ps.drop 1)).all (fun a => ltIS a.1 a.2) = false from ha2, if_pos rfl]
    refine rB h ?_
    rw [ha2, Bool.and_false]
  rw [show (ps.zip (ps.drop 1)).all (fun a => ltIS a.1 a.2) = true from ha, if_neg (by decide)]
  simp [wFunT, e_var]
  refine ⟨rfl, rs, rfl, ?_, ?_⟩
  · have := sizeR_le hr.keys
    have := hr.len
    omega
  simp [e_var]
  refine ⟨by omega, rfl, ?_⟩
  refine comp_bools pD (inMb rs) _ (fun p hm C hc => ?_) ?_
  · simp [e_var, wInT, pD, keysOf, keyOf, onOt, marks_get]
    exact hc
  rw [bools_map]
  simp only [onO_some]
  rw [all_id]
  refine rB h ?_
  rw [ha, Bool.and_true]
end AF

set_option Elab.async false
set_option linter.all false
set_option maxRecDepth 100000
set_option maxHeartbeats 4000000
namespace AF
open PySem PySem.Spec PyProof.Rows L2
/-! ### sorted marks are one list -/
def leIS (p q : IS) : Bool := !ltIS q p
def sortIS (ps : List IS) : List IS := ps.mergeSort leIS
theorem le_anti {p q : IS} (h1 : ltIS p q = false) (h2 : ltIS q p = false) : p = q := by
  unfold ltIS at h1 h2
  obtain ⟨i, x⟩ := p
  obtain ⟨j, y⟩ := q
  by_cases e : i = j
  · subst e
    by_cases e2 : x = y
    · rw [e2]
    · have e3 : ¬ y = x := fun h => e2 h.symm
      simp only [if_true, if_neg e2, if_neg e3, decide_eq_false_iff_not] at h1 h2
      exfalso
      have := List.le_antisymm (as := x.cps.toList) (bs := y.cps.toList) h2 h1
      apply e2
      cases x; cases y
      simp at this
      rw [this]
  · have e3 : ¬ j = i := fun h => e h.symm
    simp only [if_neg e, if_neg e3, decide_eq_false_iff_not] at h1 h2
    omega
theorem sort_sorted (ps : List IS) : SortedIS (sortIS ps) := by
  have := List.pairwise_mergeSort (le := leIS) (fun a b c h1 h2 => ?_) (fun a b => ?_) ps
  · unfold SortedIS sortIS
    refine List.Pairwise.imp (fun h => ?_) this
    unfold leIS at h
    simpa using h
  · unfold leIS at h1 h2 ⊢
    simp at h1 h2 ⊢
    exact swo_is.tr _ _ _ h1 h2
  · unfold leIS
    cases e : ltIS b a with
    | false => rfl
    | true => rw [swo_is.asym _ _ e]; rfl
theorem sort_perm (ps : List IS) : (sortIS ps).Perm ps := List.mergeSort_perm _ _
theorem sort_uniq {qs ps : List IS} (hp : qs.Perm ps) (hs : SortedIS qs) : qs = sortIS ps :=
  List.Perm.eq_of_pairwise (fun a b _ _ h1 h2 => le_anti h2 h1) hs (sort_sorted ps) (hp.trans (sort_perm ps).symm)
theorem k_sorted {ps : List IS} {Q : D → Prop} (h : Q (.list ((sortIS ps).map pD))) : fSorted [.list (ps.map pD)] Q :=
  ⟨ps, .inl rfl, fun qs hp hs => by rw [sort_uniq hp hs]; exact h⟩
theorem k_sortedT {ps : List IS} {Q : D → Prop} (h : Q (.list ((sortIS ps).map pD))) : fSorted [.tuple (ps.map pD)] Q :=
  ⟨ps, .inr rfl, fun qs hp hs => by rw [sort_uniq hp hs]; exact h⟩
/-! ### the asks -/
def lastT (l : List IS) (k : Str) : Option Int := l.foldl (fun o p => if p.2 = k then some p.1 else o) none
theorem last_app (l : List IS) (p : IS) (k : Str) : lastT (l ++ [p]) k = if p.2 = k then some p.1 else lastT l k := by
  unfold lastT
  rw [List.foldl_append]
  rfl
def needK (held r : Int) (l : List IS) (k : Str) : Bool := match lastT l k with
  | some t => decide (t + held < r)
  | none => true
def askK (held r : Int) (l : List IS) (k : Str) : List IS := if needK held r l k = true then l ++ [(r, k)] else l
def askR (held : Int) (l : List IS) (p : Int × List Str) : List IS := p.2.foldl (askK held p.1) l
def asksF (held : Int) (rs : Reads) : List IS := rs.foldl (askR held) []
def asksS (held : Int) (rs : Reads) : List IS := sortIS (asksF held rs)
/-- the dictionary of the last asks -/
def DR (kvs : List (Key × D)) (l : List IS) : Prop := (∀ k, getD kvs (.inr k) = (lastT l k).map PyData.int) ∧ kvs.length ≤ l.length
theorem dr_nil : DR [] [] := ⟨fun k => rfl, Nat.le_refl _⟩
theorem dr_put {kvs : List (Key × D)} {l : List IS} (h : DR kvs l) (r : Int) (k : Str) : DR (putD kvs (.inr k) (PyData.int r)) (l ++ [(r, k)]) := by
  refine ⟨fun k' => ?_, ?_⟩
  · rw [get_put, last_app, h.1]
    by_cases e : k = k'
    · subst e; simp
    · have : ¬ (Sum.inr k : Key) = Sum.inr k' := fun h => e (Sum.inr.inj h)
      simp [e, this]
  · have := put_len kvs (.inr k) (PyData.int r)
    have := h.2
    rw [List.length_append]
    simp
    omega
theorem loop_pre {wg : WG} {wb : WS} {Dd : EndsD} {α : Type} (Inv : List α → Env' → Prop) (el : α → D) (ds : List α)
    (hstep : ∀ (pre : List α) (d : α) (post : List α) (E : Env') (nx : Env' → Prop), ds = pre ++ d :: post → Inv pre E → (∀ E', Inv (pre ++ [d]) E' → nx E') → wg (el d) E fun E1 => wb ⟨nx, Dd.rt, Dd.nx, nx⟩ E1)
    {E : Env'} (hi : Inv [] E) (hend : ∀ E', Inv ds E' → Dd.nx E') : loopD wg wb Dd (ds.map el) E := by
  have go : ∀ (post pre : List α) (E : Env'), ds = pre ++ post → Inv pre E → loopD wg wb Dd (post.map el) E := by
    intro post
    induction post with
    | nil =>
      intro pre E e hi
      rw [List.append_nil] at e
      subst e
      exact hend E hi
    | cons d post ih =>
      intro pre E e hi
      exact hstep pre d post E _ e hi fun E' hi' => ih (pre ++ [d]) E' (by rw [List.append_assoc]; exact e) hi'
  exact go ds [] E rfl hi
theorem askK_len (held r : Int) (l : List IS) (k : Str) : (askK held r l k).length ≤ l.length + 1 := by
  unfold askK
  split <;> simp
theorem askR_len (held r : Int) : ∀ (ks : List Str) (l : List IS), (ks.foldl (askK held r) l).length ≤ l.length + ks.length
  | [], l => by simp
  | k :: ks, l => by
    have := askK_len held r l k
    have := askR_len held r ks (askK held r l k)
    rw [List.foldl_cons, List.length_cons]
    omega
theorem asksF_app (held : Int) (pre : Reads) (p : Int × List Str) : asksF held (pre ++ [p]) = askR held (asksF held pre) p := by
  unfold asksF
  rw [List.foldl_append]
  rfl
theorem asksF_len (held : Int) : ∀ (rs : Reads) (l : List IS), (rs.foldl (askR held) l).length ≤ l.length + sizeR rs
  | [], l => by simp [sizeR]
  | p :: rs, l => by
    have h1 := askR_len held p.1 p.2 l
    have h2 := asksF_len held rs (askR held l p)
    unfold sizeR at h2 ⊢
    unfold askR at h1 h2
    rw [List.foldl_cons, List.map_cons, List.sum_cons]
    unfold askR
    omega
theorem sizeR_pre {rs pre post : Reads} (hr : RdOk rs) (e : rs = pre ++ post) : sizeR pre ≤ 360 ∧ ∀ p ∈ pre ++ post, p.2.length ≤ 6 := by
  have hl := hr.len
  have := sizeR_le (rs := pre) fun p hp => hr.keys p (by rw [e]; exact List.mem_append_left _ hp)
  have e2 := congrArg List.length e
  rw [List.length_append] at e2
  exact ⟨by omega, fun p hp => (hr.keys p (by rw [e]; exact hp)).hi⟩
theorem p_asks_in {held : Int} {rs : Reads} {R : D → Prop} (hr : RdOk rs) (h : R (.tuple ((asksS held rs).map pD))) : P_asks_in [.int held, readsD rs] R := by
  refine ⟨rfl, ?_⟩
  simp [W_asks_in, e_var, startE, endD, readsD]
  refine loop_pre (fun pre E => ∃ kvs s4 s5 s6, DR kvs (asksF held pre) ∧ E = [.fz (.int held), .fz (.tuple (rs.map readD)), .od kvs, .ol ((asksF held pre).map pD), s4, s5, s6]) readD rs (fun pre p post E nx ers hi hn => ?_) ⟨_, _, _, _, dr_nil, rfl⟩ fun E hi => ?_
  · obtain ⟨kvs, s4, s5, s6, hd, rfl⟩ := hi
    obtain ⟨z1, z2⟩ := sizeR_pre hr ers
    have z3 := z2 p (by simp)
    simp [readD, e_var]
    refine loop_pre (fun pk E => ∃ kvs s6, DR kvs (pk.foldl (askK held p.1) (asksF held pre)) ∧ E = [.fz (.int held), .fz (.tuple (rs.map readD)), .od kvs, .ol ((pk.foldl (askK held p.1) (asksF held pre)).map pD), .fz (.int p.1), .fz (.tuple (p.2.map .str)), s6]) PyData.str p.2 (fun pk k qk E nx2 eks hi2 hn2 => ?_) ⟨_, _, hd, rfl⟩ fun E hi2 => ?_
    · obtain ⟨kv2, s6', hd2, rfl⟩ := hi2
      have z4 := askR_len held p.1 pk (asksF held pre)
      have z5 := asksF_len held pre []
      have z6 : pk.length ≤ 6 := by
        have := congrArg List.length eks
        rw [List.length_append] at this
        omega
      have z7 := hd2.2
      unfold asksF at z4
      simp at z4 z5
      rw [List.foldl_append, List.foldl_cons, List.foldl_nil] at hn2
      generalize hl : List.foldl (askK held p.1) (asksF held pre) pk = l at *
      unfold asksF at hl
      rw [hl] at z4
      simp [wIn, keyOf, onOd, e_var, hd2.1]
      have hn3 : needK held p.1 l k = true → ∀ kvs s6, DR kvs (l ++ [(p.1, k)]) → nx2 [.fz (.int held), .fz (.tuple (rs.map readD)), .od kvs, .ol ((l ++ [(p.1, k)]).map pD), .fz (.int p.1), .fz (.tuple (p.2.map .str)), s6] := fun e kvs s6 h => hn2 _ ⟨kvs, s6, by
        rw [show askK held p.1 l k = l ++ [(p.1, k)] from if_pos e]
        exact ⟨h, rfl⟩⟩
      have hn4 : needK held p.1 l k = false → ∀ kvs s6, DR kvs l → nx2 [.fz (.int held), .fz (.tuple (rs.map readD)), .od kvs, .ol (l.map pD), .fz (.int p.1), .fz (.tuple (p.2.map .str)), s6] := fun e kvs s6 h => hn2 _ ⟨kvs, s6, by
        rw [show askK held p.1 l k = l from if_neg (by rw [e]; decide)]
        exact ⟨h, rfl⟩⟩
      clear hn2
      cases el : lastT l k with
      | none =>
        simp [wDput, onOd, keyOf, e_var, wApp, onOl]
        refine ⟨by omega, by omega, ?_⟩
        have := hn3 (by unfold needK; rw [el]) _ (.fz (.str k)) (dr_put hd2 p.1 k)
        rw [List.map_append] at this
        exact this
      | some t =>
        simp [wDput, onOd, keyOf, e_var, wApp, onOl, wDget, hd2.1, el]
        by_cases e : t + held < p.1
        · simp [e]
          refine ⟨by omega, by omega, ?_⟩
          have := hn3 (by unfold needK; rw [el]; exact decide_eq_true e) _ (.fz (.str k)) (dr_put hd2 p.1 k)
          rw [List.map_append] at this
          exact this
        · simp [e]
          exact hn4 (by unfold needK; rw [el]; exact decide_eq_false e) _ _ hd2
    · obtain ⟨kv2, s6', hd2, rfl⟩ := hi2
      exact hn _ ⟨kv2, _, _, _, by rw [asksF_app]; exact ⟨hd2, rfl⟩⟩
  · obtain ⟨kvs, s4, s5, s6, hd, rfl⟩ := hi
    simp [e_var, res]
    apply k_sorted
    exact h
end AF

set_option Elab.async false
set_option linter.all false
set_option maxRecDepth 100000
set_option maxHeartbeats 4000000
namespace AF
open PySem PySem.Spec PyProof.Rows L2
theorem mulw {i j : Int} (hi : i.natAbs < 2 ^ 200) (hj : j.natAbs < 2 ^ 200) : CMulW i j := by
  have h1 := PySem.Flt.log2_lt_of (by decide) hi
  have h2 := PySem.Flt.log2_lt_of (by decide) hj
  unfold CMulW
  omega
theorem divw {i j : Int} (h0 : 0 < j) (hj : j.natAbs < 2 ^ 200) : CDivW i j := wide_div h0 hj (by decide) (by decide)
theorem nat200 {i : Int} (h0 : 0 ≤ i) (h1 : i < 2 ^ 190) : i.natAbs < 2 ^ 200 := by
  have : (2 : Int) ^ 190 = ((2 ^ 190 : Nat) : Int) := rfl
  have h2 : (2 : Nat) ^ 190 < 2 ^ 200 := by decide
  omega
def DiceOk (n : Nat) (es : List D) : Prop := ∃ l m c : Int, es = [.int l, .int m, .int c] ∧ 0 ≤ c ∧ c ≤ n
theorem DiceOk.mono {n m : Nat} {es : List D} (h : DiceOk n es) (e : n ≤ m) : DiceOk m es := by
  obtain ⟨l, a, c, h1, h2, h3⟩ := h
  exact ⟨l, a, c, h1, h2, by omega⟩
@[simp] theorem at2 {a b c : D} {l : List D} : atI (a :: b :: c :: l) 2 = some c := atI_nat (j := 2) rfl
theorem p_roll {n : Nat} {es : List D} {most : Int} {R : D → List D → Prop} (hd : DiceOk n es) (hn : n ≤ 1000000) (h0 : 0 < most) (h1 : most ≤ 1000000)
    (h : ∀ k es', 0 ≤ k → k < most → DiceOk (n + 1) es' → R (.int k) es') : P__law_roll es [.int most] R := by
  obtain ⟨l, m, c, rfl, c0, c1⟩ := hd
  refine ⟨rfl, fun a => ?_⟩
  simp (maxSteps := 10000000) [W__law_roll, e_var, startO, endO, onDc, wDiceSet, res]
  by_cases hl : 0 < l
  · simp [hl]
    refine ⟨h0, divw h0 (nat200 (by omega) (by omega)), ?_⟩
    exact h _ _ (Int.emod_nonneg _ (by omega)) (Int.emod_lt_of_pos _ h0) ⟨_, _, _, rfl, c0, by omega⟩
  · simp [hl]
    have b1 : 0 ≤ (m + 68718953 * (c + 1)) % 2305843009213693487 := Int.emod_nonneg _ (by omega)
    have b2 : (m + 68718953 * (c + 1)) % 2305843009213693487 < 2305843009213693487 := Int.emod_lt_of_pos _ (by omega)
    generalize (m + 68718953 * (c + 1)) % 2305843009213693487 = one at *
    have b3 : 0 ≤ (one * one + 83 * (c + 1)) % 2305843009213693253 := Int.emod_nonneg _ (by omega)
    have b4 : (one * one + 83 * (c + 1)) % 2305843009213693253 < 2305843009213693253 := Int.emod_lt_of_pos _ (by omega)
    generalize (one * one + 83 * (c + 1)) % 2305843009213693253 = two at *
    have hc : (c + 1).natAbs < 2 ^ 200 := nat200 (by omega) (by omega)
    have ho : one.natAbs < 2 ^ 200 := nat200 (by omega) (by omega)
    have ht : two.natAbs < 2 ^ 200 := nat200 (by omega) (by omega)
    refine ⟨mulw (nat200 (by omega) (by omega)) hc, mulw ho ho, mulw (nat200 (by omega) (by omega)) hc, mulw ht (nat200 (by omega) (by omega)), divw (by omega) (nat200 (by omega) (by omega)), h0, ?_⟩
    exact h _ _ (Int.emod_nonneg _ (by omega)) (Int.emod_lt_of_pos _ h0) ⟨_, _, _, rfl, by omega, by omega⟩
theorem p_pick {n : Nat} {es : List D} {items : List D} {d : D} {R : D → List D → Prop} (hd : DiceOk n es) (hn : n ≤ 1000000) (he : d = .list items ∨ d = .tuple items) (h0 : 0 < items.length) (h1 : items.length ≤ 1000000)
    (h : ∀ x ∈ items, ∀ es', DiceOk (n + 1) es' → R x es') : P__law_pick es [d] R := by
  refine ⟨rfl, fun a => ?_⟩
  have key : ∀ (k : Int) (es' : List D), 0 ≤ k → k < (items.length : Int) → DiceOk (n + 1) es' → ∃ x, atI items k = some x ∧ R x es' := fun k es' k0 k1 hd' => by
    have hk : k.toNat < items.length := by omega
    refine ⟨items[k.toNat], ?_, h _ (List.getElem_mem hk) es' hd'⟩
    have := atI_nat (List.getElem?_eq_getElem hk)
    rwa [show ((k.toNat : Nat) : Int) = k by omega] at this
  rcases he with rfl | rfl
  · simp [W__law_pick, e_var, startO, endO, onDc]
    refine p_roll hd hn (by omega) (by omega) fun k es' k0 k1 hd' => ?_
    obtain ⟨x, hx, hR⟩ := key k es' k0 k1 hd'
    simp [hx]
    exact hR
  · simp [W__law_pick, e_var, startO, endO, onDc]
    refine p_roll hd hn (by omega) (by omega) fun k es' k0 k1 hd' => ?_
    obtain ⟨x, hx, hR⟩ := key k es' k0 k1 hd'
    simp [hx]
    exact hR
end AF

set_option Elab.async false
set_option linter.all false
set_option maxRecDepth 100000
set_option maxHeartbeats 4000000
namespace AF
open PySem PySem.Spec PyProof.Rows L2
/-! ### numbers within bounds, of any data -/
def fromB (d : D) (lo hi : Int) : Bool := match d with
  | .int v => decide (lo ≤ v) && decide (v ≤ hi)
  | _ => false
theorem p_is_fromG {d : D} {lo hi : Int} {R : D → Prop} (h : R (.bool (fromB d lo hi))) : P_is_from [d, .int lo, .int hi] R := by
  cases d with
  | int v => exact p_is_from h
  | _ =>
    refine ⟨rfl, ?_⟩
    simp [W_is_from, e_var, startE, endD]
    apply p_is_whole
    simpa [wholeB, fromB] using h
@[simp] theorem x_if {wc : WT} {wa wb : WSX} {R : XD → Prop} {Dd : EndsD} {E : Env'} : xIf wc wa wb R Dd E = wc E fun z E1 => if z = true then wa R Dd E1 else wb R Dd E1 := rfl
@[simp] theorem x_seq {w u : WSX} {R : XD → Prop} {Dd : EndsD} {E : Env'} : xSeq w u R Dd E = w R { Dd with nx := u R Dd } E := rfl
@[simp] theorem x_raiseM {x : Str} {R : XD → Prop} {Dd : EndsD} {E : Env'} : xRaiseM x R Dd E = R (.msg x) := rfl
@[simp] theorem x_raiseV {x f : Str} {w : WE} {R : XD → Prop} {Dd : EndsD} {E : Env'} : xRaiseV x f w R Dd E = w E fun y _ => onD y fun d => R (.val x f d) := rfl
@[simp] theorem x_call {f : PX} {w : WA} {R : XD → Prop} {Dd : EndsD} {E : Env'} : xCall f w R Dd E = w E fun xs E1 => onO (frz xs) fun ds => f ds (fun _ => Dd.nx E1) R := rfl
abbrev bad (d : D) : XD := .val "InvalidNumber" "given" d
abbrev badOp : XD := .msg "InvalidOperation"
theorem p_rf {d : D} {lo hi : Int} {R : D → Prop} {RX : XD → Prop} (h : if fromB d lo hi = true then R .none else RX (bad d)) : P_require_from [d, .int lo, .int hi] R RX := by
  refine ⟨rfl, ?_⟩
  simp [W_require_from, e_var, startE, endD]
  apply p_is_fromG
  cases z : fromB d lo hi with
  | true => rw [z] at h; simpa using h
  | false => rw [z] at h; simpa using h
theorem p_rt {d : D} {R : D → Prop} {RX : XD → Prop} (h : if tickB d = true then R .none else RX (bad d)) : P_require_tick [d] R RX := by
  refine ⟨rfl, ?_⟩
  simp [W_require_tick, e_var, startE, endD]
  apply p_is_tick
  cases z : tickB d with
  | true => rw [z] at h; simpa using h
  | false => rw [z] at h; simpa using h
theorem p_rs {d : D} {R : D → Prop} {RX : XD → Prop} (h : if fromB d 1 6 = true then R .none else RX (bad d)) : P_require_spread [d] R RX := by
  refine ⟨rfl, ?_⟩
  simp [W_require_spread, e_var, startE, endD]
  exact p_rf (R := fun _ => R .none) h
theorem p_held_at {s t d : D} {R : D → Prop} {RX : XD → Prop} (h : if fromB s 1 6 = true then (if fromB t 1 200 = true then (if fromB d 1 6 = true then False else RX (bad d)) else RX (bad t)) else RX (bad s)) : P_held_at [s, t, d] R RX := by
  refine ⟨rfl, ?_⟩
  simp [W_held_at, e_var, startE, endD, wNever]
  apply p_rs
  split at h
  · rename_i z
    rw [if_pos z]
    apply p_rf
    split at h
    · rename_i z
      rw [if_pos z]
      apply p_rf
      split at h
      · exact h.elim
      · rename_i z
        rw [if_neg z]
        exact h
    · rename_i z
      rw [if_neg z]
      exact h
  · rename_i z
    rw [if_neg z]
    exact h
theorem p_least_term {s d u : D} {R : D → Prop} {RX : XD → Prop} (h : if fromB s 1 6 = true then (if fromB d 1 6 = true then (if fromB u 1 200 = true then False else RX (bad u)) else RX (bad d)) else RX (bad s)) : P_least_term [s, d, u] R RX := by
  refine ⟨rfl, ?_⟩
  simp [W_least_term, e_var, startE, endD, wNever]
  apply p_rs
  split at h
  · rename_i z
    rw [if_pos z]
    apply p_rf
    split at h
    · rename_i z
      rw [if_pos z]
      apply p_rf
      split at h
      · exact h.elim
      · rename_i z
        rw [if_neg z]
        exact h
    · rename_i z
      rw [if_neg z]
      exact h
  · rename_i z
    rw [if_neg z]
    exact h
theorem p_greatest_depth {s t : D} {R : D → Prop} {RX : XD → Prop} (h : if fromB s 1 6 = true then (if fromB t 1 200 = true then False else RX (bad t)) else RX (bad s)) : P_greatest_depth [s, t] R RX := by
  refine ⟨rfl, ?_⟩
  simp [W_greatest_depth, e_var, startE, endD, wNever]
  apply p_rs
  split at h
  · rename_i z
    rw [if_pos z]
    apply p_rf
    split at h
    · exact h.elim
    · rename_i z
      rw [if_neg z]
      exact h
  · rename_i z
    rw [if_neg z]
    exact h
/-! ### keys and reads, of any data -/
def ltKey : D → D → Bool
  | .str a, .str b => decide (a.cps.toList < b.cps.toList)
  | _, _ => false
def nextB (r : D → D → Bool) (ds : List D) : Bool := (ds.zip (ds.drop 1)).all fun p => r p.1 p.2
def keysB : D → Bool
  | .tuple ds => decide (1 ≤ ds.length) && decide (ds.length ≤ 6) && ds.all keyB && nextB ltKey ds
  | _ => false
def shK : D → Prop
  | .tuple ds => ds.length ≤ 1000 ∧ ∀ x ∈ ds, shS x
  | _ => True
theorem zip_nextD (l : List D) : zipD l (l.drop 1) = (l.zip (l.drop 1)).map fun p => .tuple [p.1, p.2] := by
  have := zip_next (id : D → D) l
  rw [List.map_id] at this
  exact this
theorem p_are_keysG {d : D} {R : D → Prop} (hs : shK d) (h : R (.bool (keysB d))) : P_are_keys [d] R := by
  refine ⟨rfl, ?_⟩
  simp [W_are_keys, e_var, startE, endD]
  cases d <;> try (simpa [isTuple, keysB] using h)
  rename_i ds
  obtain ⟨h1, h2⟩ := hs
  simp
  by_cases g1 : (1 : Int) ≤ ds.length
  case neg =>
    simp [g1]
    refine rB h ?_
    have : ¬ 1 ≤ ds.length := by omega
    simp [keysB, this]
  by_cases g2 : (ds.length : Int) ≤ 6
  case neg =>
    simp [g1, g2]
    refine rB h ?_
    have : ¬ ds.length ≤ 6 := by omega
    simp [keysB, this]
  simp [g1, g2]
  refine ⟨by omega, rfl, ?_⟩
  refine comp_boolsD keyB _ (fun k hm C hc => ?_) ?_
  · simp [e_var]
    apply p_is_key (h2 k hm)
    simpa using hc
  rw [bools_map]
  simp only [onO_some, false_mem]
  by_cases hk : ds.all keyB = true
  case neg =>
    have hk2 : ds.all keyB = false := by simpa using hk
    rw [if_pos hk2]
    refine rB h ?_
    show (_ && ds.all keyB && _) = false
    rw [hk2]
    simp
  have hk2 : ¬ ds.all keyB = false := by rw [hk]; decide
  rw [if_neg hk2]
  simp [e_var]
  rw [cut_from1, zip_nextD]
  have hl := next_len ds
  refine ⟨by rw [List.length_map]; omega, rfl, ?_⟩
  have hstr : ∀ x ∈ ds, ∃ y, x = .str y := fun x hx => by
    have := List.all_eq_true.mp hk x hx
    cases x <;> first | exact ⟨_, rfl⟩ | (simp [keyB] at this)
  refine comp_bools _ (fun p => ltKey p.1 p.2) _ (fun p hm C hc => ?_) ?_
  · obtain ⟨y, e1⟩ := hstr p.1 (List.of_mem_zip hm).1
    obtain ⟨z, e2⟩ := hstr p.2 (List.mem_of_mem_drop (List.of_mem_zip hm).2)
    rw [e1, e2] at hc
    rw [e1, e2]
    simp [fLtS, e_var]
    simpa [ltKey] using hc
  · rw [bools_map]
    simp only [onO_some]
    rw [all_id]
    refine rB h ?_
    have l1 : 1 ≤ ds.length := by omega
    have l2 : ds.length ≤ 6 := by omega
    show (decide (1 ≤ ds.length) && decide (ds.length ≤ 6) && ds.all keyB && nextB ltKey ds) = _
    rw [hk]
    simp [l1, l2, nextB]
def readB : D → Bool
  | .tuple [a, b] => tickB a && keysB b
  | _ => false
def shR : D → Prop
  | .tuple [_, b] => shK b
  | _ => True
theorem p_is_readG {d : D} {R : D → Prop} (hs : shR d) (h : R (.bool (readB d))) : P_is_read [d] R := by
  refine ⟨rfl, ?_⟩
  simp [W_is_read, e_var, startE, endD]
  cases d <;> try (simpa [isTuple, readB] using h)
  rename_i ds
  match ds, hs, h with
  | [], _, h => simpa [readB] using h
  | [a], _, h => simpa [readB] using h
  | [a, b], hs, h =>
    simp
    apply p_is_tick
    have hs : shK b := hs
    cases z : tickB a with
    | false =>
      simp
      refine rB h ?_
      simp [readB, z]
    | true =>
      simp
      apply p_are_keysG hs
      refine rB h ?_
      simp [readB, z]
  | a :: b :: c :: r, _, h =>
    have : ¬ ((r.length : Int) + 1 + 1 + 1 = 2) := by omega
    simp [this]
    simpa [readB] using h
def leR : D → D → Bool
  | .tuple (.int i :: _), .tuple (.int j :: _) => decide (i ≤ j)
  | _, _ => false
def rdsB : D → Bool
  | .tuple ds => decide (ds.length ≤ 60) && ds.all readB && nextB leR ds
  | _ => false
def shRs : D → Prop
  | .tuple ds => ds.length ≤ 1000 ∧ ∀ x ∈ ds, shR x
  | _ => True
theorem readB_int {x : D} (h : readB x = true) : ∃ i b, x = .tuple [.int i, b] := by
  unfold readB at h
  split at h
  · rename_i a b
    simp at h
    cases a <;> first | exact ⟨_, _, rfl⟩ | (simp [tickB] at h)
  · cases h
theorem p_are_readsG {d : D} {R : D → Prop} (hs : shRs d) (h : R (.bool (rdsB d))) : P_are_reads [d] R := by
  refine ⟨rfl, ?_⟩
  simp [W_are_reads, e_var, startE, endD]
  cases d <;> try (simpa [isTuple, rdsB] using h)
  rename_i ds
  obtain ⟨h1, h2⟩ := hs
  simp
  by_cases g1 : (60 : Int) < ds.length
  case pos =>
    simp [g1]
    refine rB h ?_
    have : ¬ ds.length ≤ 60 := by omega
    simp [rdsB, this]
  simp [g1]
  refine ⟨by omega, rfl, ?_⟩
  refine comp_boolsD readB _ (fun k hm C hc => ?_) ?_
  · simp [e_var]
    apply p_is_readG (h2 k hm)
    simpa using hc
  rw [bools_map]
  simp only [onO_some, false_mem]
  by_cases hk : ds.all readB = true
  case neg =>
    have hk2 : ds.all readB = false := by simpa using hk
    rw [if_pos hk2]
    refine rB h ?_
    show (_ && ds.all readB && _) = false
    rw [hk2]
    simp
  have hk2 : ¬ ds.all readB = false := by rw [hk]; decide
  rw [if_neg hk2]
  simp [e_var]
  rw [cut_from1, zip_nextD]
  have hl := next_len ds
  refine ⟨by rw [List.length_map]; omega, rfl, ?_⟩
  refine comp_bools _ (fun p => leR p.1 p.2) _ (fun p hm C hc => ?_) ?_
  · obtain ⟨i, b, e1⟩ := readB_int (List.all_eq_true.mp hk p.1 (List.of_mem_zip hm).1)
    obtain ⟨j, c, e2⟩ := readB_int (List.all_eq_true.mp hk p.2 (List.mem_of_mem_drop (List.of_mem_zip hm).2))
    rw [e1, e2] at hc
    rw [e1, e2]
    simp [e_var]
    simpa [leR] using hc
  · rw [bools_map]
    simp only [onO_some]
    rw [all_id]
    refine rB h ?_
    have l2 : ds.length ≤ 60 := by omega
    show (decide (ds.length ≤ 60) && ds.all readB && nextB leR ds) = _
    rw [hk]
    simp [l2, nextB]
theorem p_rrG {held rs : D} {R : D → Prop} {RX : XD → Prop} (hs : shRs rs) (h : if fromB held 0 200 = true then (if rdsB rs = true then R .none else RX badOp) else RX (bad held)) : P_require_reads [held, rs] R RX := by
  refine ⟨rfl, ?_⟩
  simp [W_require_reads, e_var, startE, endD]
  apply p_rf
  split at h
  · rename_i z
    rw [if_pos z]
    apply p_are_readsG hs
    split at h
    · rename_i z
      simpa [z] using h
    · rename_i z
      simpa [z] using h
  · rename_i z
    rw [if_neg z]
    exact h
theorem p_rnG {held rs n : D} {R : D → Prop} {RX : XD → Prop} (hs : shRs rs) (h : if fromB held 0 200 = true then (if rdsB rs = true then (if fromB n 0 400 = true then R .none else RX (bad n)) else RX badOp) else RX (bad held)) : P_require_number [held, rs, n] R RX := by
  refine ⟨rfl, ?_⟩
  simp [W_require_number, e_var, startE, endD]
  apply p_rrG hs
  split at h
  · rename_i z
    rw [if_pos z]
    split at h
    · rename_i z
      rw [if_pos z]
      apply p_rf
      exact h
    · rename_i z
      rw [if_neg z]
      exact h
  · rename_i z
    rw [if_neg z]
    exact h
end AF

set_option Elab.async false
set_option linter.all false
set_option maxRecDepth 100000
set_option maxHeartbeats 4000000
namespace AF
open PySem PySem.Spec PyProof.Rows L2
/-- what the first two arguments end in -/
def badR (held rs : D) (RX : XD → Prop) : Prop := if fromB held 0 200 = true then (if rdsB rs = true then False else RX badOp) else RX (bad held)
theorem badR_rr {held rs : D} {R : D → Prop} {RX : XD → Prop} (hs : shRs rs) (h : badR held rs RX) : P_require_reads [held, rs] R RX := by
  unfold badR at h
  refine p_rrG hs ?_
  split at h
  · rename_i z
    rw [if_pos z]
    split at h
    · exact h.elim
    · rename_i z
      rw [if_neg z]
      exact h
  · rename_i z
    rw [if_neg z]
    exact h
theorem badR_rn {held rs n : D} {R : D → Prop} {RX : XD → Prop} (hs : shRs rs) (h : badR held rs RX) : P_require_number [held, rs, n] R RX := by
  unfold badR at h
  refine p_rnG hs ?_
  split at h
  · rename_i z
    rw [if_pos z]
    split at h
    · exact h.elim
    · rename_i z
      rw [if_neg z]
      exact h
  · rename_i z
    rw [if_neg z]
    exact h
section
variable {held rs n v : D} {R : D → Prop} {RX : XD → Prop}
theorem b_asks_of (hs : shRs rs) (h : badR held rs RX) : P_asks_of [held, rs] R RX := by
  refine ⟨rfl, ?_⟩
  simp [W_asks_of, e_var, startE]
  exact badR_rr hs h
theorem b_fewest_asks (hs : shRs rs) (h : badR held rs RX) : P_fewest_asks [held, rs] R RX := by
  refine ⟨rfl, ?_⟩
  simp [W_fewest_asks, e_var, startE]
  exact badR_rr hs h
theorem b_do_cover (hs : shRs rs) (h : badR held rs RX) : P_do_cover [held, rs, v] R RX := by
  refine ⟨rfl, ?_⟩
  simp [W_do_cover, e_var, startE]
  exact badR_rr hs h
theorem b_are_apart (hs : shRs rs) (h : badR held rs RX) : P_are_apart [held, rs, v] R RX := by
  refine ⟨rfl, ?_⟩
  simp [W_are_apart, e_var, startE]
  exact badR_rr hs h
theorem b_asks_or_marks (hs : shRs rs) (h : badR held rs RX) : P_asks_or_marks [held, rs, n] R RX := by
  refine ⟨rfl, ?_⟩
  unfold W_asks_or_marks
  simp [e_var, startE]
  exact badR_rn hs h
theorem b_is_asks_or_marks (hs : shRs rs) (h : badR held rs RX) : P_is_asks_or_marks [held, rs, n, v] R RX := by
  refine ⟨rfl, ?_⟩
  unfold W_is_asks_or_marks
  generalize (wSeq (wIfS _ _ _) _ : WS) = rest
  simp [e_var, startE]
  exact badR_rn hs h
end
/-! ### right reads -/
structure RightR (held : Int) (rs : Reads) : Prop where
  h0 : 0 ≤ held
  h1 : held ≤ 200
  ok : RdOk rs
  sh : shRs (readsD rs)
  b : rdsB (readsD rs) = true
section
variable {held : Int} {rs : Reads} {n : D} {R : D → Prop} {RX : XD → Prop}
theorem RightR.from (r : RightR held rs) : fromB (.int held) 0 200 = true := by
  simp [fromB, r.h0, r.h1]
theorem RightR.rr (r : RightR held rs) (h : R .none) : P_require_reads [.int held, readsD rs] R RX := p_rrG r.sh (by rw [if_pos r.from, if_pos r.b]; exact h)
theorem RightR.rn (r : RightR held rs) (h : if fromB n 0 400 = true then R .none else RX (bad n)) : P_require_number [.int held, readsD rs, n] R RX := p_rnG r.sh (by rw [if_pos r.from, if_pos r.b]; exact h)
theorem g_asks_of (r : RightR held rs) (h : ∀ d, R d) : P_asks_of [.int held, readsD rs] R RX := by
  refine ⟨rfl, ?_⟩
  simp [W_asks_of, e_var, startE, endD]
  exact r.rr (p_asks_in r.ok (h _))
theorem g_fewest_asks (r : RightR held rs) (h : ∀ d, R d) : P_fewest_asks [.int held, readsD rs] R RX := by
  refine ⟨rfl, ?_⟩
  simp [W_fewest_asks, e_var, startE, endD]
  exact r.rr (p_asks_in r.ok (by simpa using h _))
theorem g_do_cover (r : RightR held rs) (h : ∀ d, R d) : P_do_cover [.int held, readsD rs, .none] R RX := by
  refine ⟨rfl, ?_⟩
  simp [W_do_cover, e_var, startE, endD]
  refine r.rr (p_are_marks_of (v := .none) r.ok trivial ?_)
  simpa [ofB] using h _
theorem p_apart0 {held : Int} {R : D → Prop} (h : ∀ d, R d) : P_are_apart_in [.int held, .tuple []] R := by
  refine ⟨rfl, ?_⟩
  simp [W_are_apart_in, e_var, startE, endD, loopD]
  exact h _
theorem g_are_apart (r : RightR held rs) (h : ∀ d, R d) : P_are_apart [.int held, readsD rs, .tuple []] R RX := by
  refine ⟨rfl, ?_⟩
  simp [W_are_apart, e_var, startE, endD]
  refine r.rr (p_are_marks_of (v := .tuple []) r.ok ⟨by simp, by simp⟩ ?_)
  have e : ofB rs (.tuple []) = true := rfl
  rw [e]
  simp
  exact p_apart0 h
theorem g_asks_or_marks {i : Int} (r : RightR held rs) (hi : fromB (.int i) 0 400 = true) (h : ∀ d, R d) : P_asks_or_marks [.int held, readsD rs, .int i] R RX := by
  refine ⟨rfl, ?_⟩
  simp [W_asks_or_marks, e_var, startE, endD]
  refine r.rn (by
    rw [if_pos hi]
    refine p_asks_in r.ok ?_
    simp [e_var]
    split <;> exact h _)
theorem n_asks_or_marks (r : RightR held rs) (hn : fromB n 0 400 = false) (h : RX (bad n)) : P_asks_or_marks [.int held, readsD rs, n] R RX := by
  refine ⟨rfl, ?_⟩
  unfold W_asks_or_marks
  simp [e_var, startE]
  exact r.rn (by rw [hn, if_neg (by decide)]; exact h)
theorem n_is_asks_or_marks {v : D} (r : RightR held rs) (hn : fromB n 0 400 = false) (h : RX (bad n)) : P_is_asks_or_marks [.int held, readsD rs, n, v] R RX := by
  refine ⟨rfl, ?_⟩
  unfold W_is_asks_or_marks
  generalize (wSeq (wIfS _ _ _) _ : WS) = rest
  simp [e_var, startE]
  exact r.rn (by rw [hn, if_neg (by decide)]; exact h)
end
def rs60 : Reads := List.replicate 60 (0, ["a"])
theorem right60 : RightR 200 rs60 := by
  refine ⟨by decide, by decide, ⟨by decide, fun p hp => ?_, fun p hp => ?_, ?_⟩, ⟨by decide, fun x hx => ?_⟩, by decide +kernel⟩
  · rw [(List.mem_replicate.mp hp).2]
    decide
  · rw [(List.mem_replicate.mp hp).2]
    exact ⟨by decide, by decide, by decide, by simp⟩
  · unfold rs60
    rw [List.pairwise_replicate]
    exact .inr (by decide)
  · obtain ⟨p, hp, rfl⟩ := List.mem_map.mp hx
    rw [(List.mem_replicate.mp hp).2]
    refine ⟨by decide, fun y hy => ?_⟩
    have : y = .str "a" := by simpa using hy
    rw [this]
    show (1 : Nat) ≤ 1000
    decide
theorem right0 : RightR 0 [] := ⟨by decide, by decide, ⟨by decide, by simp, by simp, .nil⟩, ⟨by decide, by simp⟩, by decide +kernel⟩
end AF

set_option Elab.async false
set_option linter.all false
set_option maxRecDepth 100000
set_option maxHeartbeats 4000000
namespace AF
open PySem PySem.Spec PyProof.Rows L2
def endsB : D → Bool
  | .tuple ds => decide (ds.length ≤ 240) && ds.all tickB
  | _ => false
def shE : D → Prop
  | .tuple ds => ds.length ≤ 1000
  | _ => True
theorem p_put {ends reading c : D} {R : D → Prop} {RX : XD → Prop} (hs : shE ends)
    (h : if endsB ends = true then (if tickB reading = true then (if (isNon c || tickB c) = true then False else RX (bad c)) else RX (bad reading)) else RX badOp) : P_put_at [ends, reading, c] R RX := by
  refine ⟨rfl, ?_⟩
  unfold W_put_at
  generalize (wRet (wCall fMaxL _) : WS) = rest
  simp [e_var, startE]
  cases ends <;> try (simpa [isTuple, endsB] using h)
  rename_i ds
  have hs : ds.length ≤ 1000 := hs
  simp
  by_cases g1 : (240 : Int) < ds.length
  case pos =>
    simp [g1]
    have : ¬ ds.length ≤ 240 := by omega
    simpa [endsB, this] using h
  simp [g1]
  refine ⟨by omega, rfl, ?_⟩
  refine comp_boolsD tickB _ (fun k hm C hc => ?_) ?_
  · simp [e_var]
    apply p_is_tick
    simpa using hc
  rw [bools_map]
  simp only [onO_some, false_mem]
  have g2 : ds.length ≤ 240 := by omega
  have ee : endsB (.tuple ds) = ds.all tickB := by
    show (decide (ds.length ≤ 240) && ds.all tickB) = _
    simp [g2]
  rw [ee] at h
  by_cases hk : ds.all tickB = true
  case neg =>
    have hk2 : ds.all tickB = false := by simpa using hk
    rw [if_pos hk2]
    rw [if_neg hk] at h
    exact h
  have hk2 : ¬ ds.all tickB = false := by rw [hk]; decide
  rw [if_neg hk2]
  rw [if_pos hk] at h
  simp [e_var]
  apply p_rt
  split at h
  · rename_i z
    rw [if_pos z]
    split at h
    · exact h.elim
    · rename_i z2
      simp at z2
      simp [fNotN, z2.1]
      apply p_is_tick
      simp [z2.2]
      exact h
  · rename_i z
    rw [if_neg z]
    exact h
theorem intsD_map : ∀ l : List Int, intsD (l.map .int) = some l
  | [] => rfl
  | i :: l => by
    show (intsD (l.map .int)).map (i :: ·) = _
    rw [intsD_map l]
    rfl
theorem g_put {ds : List Int} {r c : Int} {R : D → Prop} {RX : XD → Prop} (hl : ds.length ≤ 240) (hd : ∀ i ∈ ds, tickB (.int i) = true) (hr : tickB (.int r) = true) (hc : tickB (.int c) = true) (h : ∀ d, R d) : P_put_at [.tuple (ds.map .int), .int r, .int c] R RX := by
  refine ⟨rfl, ?_⟩
  unfold W_put_at
  simp [e_var, startE, endD]
  have g1 : ¬ (240 : Int) < ds.length := by omega
  simp [g1]
  refine ⟨by omega, rfl, ?_⟩
  refine comp_bools PyData.int (fun _ => true) _ (fun k hm C hc => ?_) ?_
  · simp
    apply p_is_tick
    rw [hd k hm]
    simpa using hc
  rw [bools_map]
  simp [e_var]
  apply p_rt
  rw [if_pos hr]
  simp [e_var, fNotN, isNon]
  apply p_is_tick
  simp [hc, e_var]
  unfold wStar
  simp [e_var]
  refine ⟨by omega, rfl, ?_⟩
  refine comp_mapsA PyData.int (fun i => .int (i + 1)) _ _ (fun k hm C hc => ?_) ?_
  · simp [e_var]
    simpa using hc
  simp [e_var, fIsN, isNon]
  have ef : ∀ l : List Int, frz ((l.map (fun i => PyData.int (i + 1))).map VD.d ++ [VD.d (PyData.int (c + 1))]) = some ((l.map (fun i => PyData.int (i + 1))) ++ [PyData.int (c + 1)]) := by
    intro l
    induction l with
    | nil => rfl
    | cons i l ih =>
      simp only [List.map_cons, List.cons_append, frz_cons, ih, Option.map_some]
  rw [← List.map_map, ef, Option.map_some, onO_some]
  refine ⟨by simp; omega, ?_⟩
  have ei : (PyData.int r :: ((ds.map (fun i => PyData.int (i + 1))) ++ [PyData.int (c + 1)])) = (r :: (ds.map (· + 1) ++ [c + 1])).map .int := by
    simp
  show onO (intsD _) (fun ns => 0 < ns.length ∧ ∀ m, m ∈ ns → (∀ y, y ∈ ns → y ≤ m) → R (.int m))
  rw [ei, intsD_map, onO_some]
  exact ⟨by simp, fun m _ _ => h _⟩
/-! ### odd values -/
def PickOk (pick : PO') : Prop := ∀ {n : Nat} {es : List D} {items : List D} {d : D} {R : D → List D → Prop}, DiceOk n es → n ≤ 1000000 → (d = .list items ∨ d = .tuple items) → 0 < items.length → items.length ≤ 1000000 → (∀ x ∈ items, ∀ es', DiceOk (n + 1) es' → R x es') → pick es [d] R
def oddL (lo hi : Int) : List D := [.none, .int (lo - 1), .int (hi + 1), .bool true, .str (toString lo), .tuple [.int lo], .int (10 ^ 62), .list [.int lo], empD]
theorem p_odd {n : Nat} {es : List D} {lo hi : Int} {R : D → List D → Prop} (hd : DiceOk n es) (hn : n ≤ 1000000) (hlo : lo.natAbs.log2 < 1920) (h : ∀ x ∈ oddL lo hi, ∀ es', DiceOk (n + 1) es' → R x es') : P__law_odd es [.int lo, .int hi] R := by
  refine ⟨rfl, fun a => ?_⟩
  have pk : PickOk P__law_pick := @p_pick
  unfold W__law_odd
  generalize P__law_pick = pick at *
  refine ⟨hlo, Nat.le_of_ble_eq_true rfl, by unfold CPow; decide, Nat.le_of_ble_eq_true rfl, Nat.le_of_ble_eq_true rfl, rfl, ?_⟩
  exact pk hd hn (.inl rfl) (Nat.lt_of_lt_of_le (by decide : 0 < 9) (Nat.le_refl _)) (Nat.le_of_ble_eq_true rfl) fun x hx es' hd' => ⟨es', rfl, h x hx es' hd'⟩
end AF

set_option Elab.async false
set_option linter.all false
set_option maxRecDepth 100000
set_option maxHeartbeats 4000000
namespace AF
open PySem PySem.Spec PyProof.Rows L2
/-! ### what is told of a call -/
abbrev MR (k : Str → Prop) : XD → Prop := metR "InvalidNumber" "InvalidOperation" "given" "operation" k
def Tells (P : PX) (ds : List D) (z : Str) : Prop := ∀ k : Str → Prop, k z → P ds (fun _ => k "fine") (MR k)
def okD (d : D) : Bool := reprOk d && PyData.canLay0 (.str (reprD d))
theorem mr_bad {d : D} {k : Str → Prop} (h : okD d = true) (q : k (reprD d)) : MR k (bad d) := ⟨rfl, rfl, (Bool.and_eq_true_iff.mp h).1, q⟩
theorem mr_op {k : Str → Prop} (q : k "operation") : MR k badOp := ⟨rfl, q⟩
theorem frz_map : ∀ ds : List D, frz (ds.map .d) = some ds
  | [] => rfl
  | d :: ds => by
    rw [List.map_cons, frz_cons, frz_map ds]
    rfl
theorem met_tells {i : Nat} {P : Addr} {q : Str} {E : Env'} {Q : VD → Env' → Prop} {Pf : PX} {w : WA} {ds : List D} {z : Str} (htb : E[i]? = some (.tb P q)) (hw : ∀ C : List VD → Env' → Prop, C (ds.map .d) E → w E C) (ht : Tells Pf ds z) (h : Q (.d (.str z)) E) :
    wMet i P q "InvalidNumber" "InvalidOperation" "given" "operation" "fine" (lCall Pf w) E Q := ⟨htb, hw _ ⟨rfl, by rw [frz_map]; exact ht (fun z => Q (.d (.str z)) E) h⟩⟩
theorem app_tells {i j : Nat} {P : Addr} {q : Str} {E : Env'} {Dd : EndsD} {Pf : PX} {w : WA} {ds told : List D} {z : Str} (hj : E[j]? = some (.ol told)) (hl : told.length ≤ 1000000) (htb : E[i]? = some (.tb P q)) (hw : ∀ C : List VD → Env' → Prop, C (ds.map .d) E → w E C) (ht : Tells Pf ds z) (h : Dd.nx (E.set j (.ol (told ++ [.str z])))) :
    wDrop (wApp j (wMet i P q "InvalidNumber" "InvalidOperation" "given" "operation" "fine" (lCall Pf w))) Dd E := by
  unfold wDrop wApp onOl
  simp only [hj]
  refine met_tells htb hw ht ?_
  simp only [onD_d, hj]
  exact ⟨hl, h⟩
theorem ifF {c : Bool} {p q : Prop} (h : c = false) (hq : q) : if c = true then p else q := by rw [h, if_neg (by decide)]; exact hq
theorem ifT {c : Bool} {p q : Prop} (h : c = true) (hp : p) : if c = true then p else q := by rw [h, if_pos rfl]; exact hp
section
variable {s t d u : D}
theorem t_held1 (hs : fromB s 1 6 = false) (ho : okD s = true) : Tells P_held_at [s, t, d] (reprD s) := fun k h => p_held_at (ifF hs (mr_bad ho h))
theorem t_held2 (hs : fromB s 1 6 = true) (ht : fromB t 1 200 = false) (ho : okD t = true) : Tells P_held_at [s, t, d] (reprD t) := fun k h => p_held_at (ifT hs (ifF ht (mr_bad ho h)))
theorem t_held3 (hs : fromB s 1 6 = true) (ht : fromB t 1 200 = true) (hd : fromB d 1 6 = false) (ho : okD d = true) : Tells P_held_at [s, t, d] (reprD d) := fun k h => p_held_at (ifT hs (ifT ht (ifF hd (mr_bad ho h))))
theorem t_great1 (hs : fromB s 1 6 = false) (ho : okD s = true) : Tells P_greatest_depth [s, t] (reprD s) := fun k h => p_greatest_depth (ifF hs (mr_bad ho h))
theorem t_great2 (hs : fromB s 1 6 = true) (ht : fromB t 1 200 = false) (ho : okD t = true) : Tells P_greatest_depth [s, t] (reprD t) := fun k h => p_greatest_depth (ifT hs (ifF ht (mr_bad ho h)))
theorem t_least1 (hs : fromB s 1 6 = false) (ho : okD s = true) : Tells P_least_term [s, d, u] (reprD s) := fun k h => p_least_term (ifF hs (mr_bad ho h))
theorem t_least2 (hs : fromB s 1 6 = true) (hd : fromB d 1 6 = false) (ho : okD d = true) : Tells P_least_term [s, d, u] (reprD d) := fun k h => p_least_term (ifT hs (ifF hd (mr_bad ho h)))
theorem t_least3 (hs : fromB s 1 6 = true) (hd : fromB d 1 6 = true) (hu : fromB u 1 200 = false) (ho : okD u = true) : Tells P_least_term [s, d, u] (reprD u) := fun k h => p_least_term (ifT hs (ifT hd (ifF hu (mr_bad ho h))))
end
def oddB (lo hi : Int) (d : D) : Bool := !fromB d lo hi && okD d
theorem odd_of {lo hi : Int} {d : D} (h : oddB lo hi d = true) : fromB d lo hi = false ∧ okD d = true := by
  unfold oddB at h
  simpa using h
theorem odd16 : ∀ x ∈ oddL 1 6, oddB 1 6 x = true := by decide +kernel
theorem odd1200 : ∀ x ∈ oddL 1 200, oddB 1 200 x = true := by decide +kernel
theorem odd0200 : ∀ x ∈ oddL 0 200, oddB 0 200 x = true := by decide +kernel
theorem odd0400 : ∀ x ∈ oddL 0 400, oddB 0 400 x = true := by decide +kernel
/-! ### rows of texts -/
theorem eqvAll_strs : ∀ zs : List Str, PyData.eqvAll (zs.map .str) (zs.map .str) = true
  | [] => by simp [PyData.eqvAll]
  | z :: zs => by
    rw [List.map_cons, PyData.eqvAll, eqvAll_strs zs]
    simp [PyData.eqv]
theorem eqv_strs (zs : List Str) : PyData.eqv (.list (zs.map .str)) (.list (zs.map .str)) = true := by
  rw [PyData.eqv]
  exact eqvAll_strs zs
theorem ld_str {z : Str} (h : PyData.canLay0 (.str z) = true) : LD 0 (.str z) := ⟨h, by simp [PyData.depth]⟩
theorem shaped_strs {zs : List Str} (h : ∀ z ∈ zs, PyData.canLay0 (.str z) = true) : SeqAt.shaped (.list (zs.map .str)) = true := (ld_list fun d hd => by
  obtain ⟨z, hz, rfl⟩ := List.mem_map.mp hd
  exact ld_str (h z hz)).shaped (by decide)
theorem okD_lay {d : D} (h : okD d = true) : PyData.canLay0 (.str (reprD d)) = true := (Bool.and_eq_true_iff.mp h).2
theorem okD_repr {d : D} (h : okD d = true) : reprOk d = true := (Bool.and_eq_true_iff.mp h).1
/-- the list that tells all reprs -/
theorem comp_reprs {wg : WG} {we : WE} {vs : List Nat} {Q : List D → Env' → Prop} {E : Env'} (ds : List D) (hs : ∀ d ∈ ds, ∀ C : D → Env' → Prop, C (.str (reprD d)) E → wg d E fun E1 => we E1 fun x E3 => onD x fun y => C y (wipeE E3 vs)) (h : Q ((ds.map reprD).map .str) E) : compD wg wYes we vs Q ds [] E := by
  refine comp_map (fun d => .str (reprD d)) ds hs ?_
  rw [List.map_map] at h
  exact h
end AF

set_option Elab.async false
set_option linter.all false
set_option maxRecDepth 100000
set_option maxHeartbeats 4000000
namespace AF
open PySem PySem.Spec PyProof.Rows L2
theorem vo5 {s0 s1 s2 s3 s4 : Sl} {d : List D} {E : Env'} {Q : VD → Env' → Prop} : wVar 5 (s0 :: s1 :: s2 :: s3 :: s4 :: .ol d :: E) Q = Q (.own 5) (s0 :: s1 :: s2 :: s3 :: s4 :: .ol d :: E) := rfl
def OddOk (odd : PO') : Prop := ∀ {n : Nat} {es : List D} {lo hi : Int} {R : D → List D → Prop}, DiceOk n es → n ≤ 1000000 → lo.natAbs.log2 < 1920 → (∀ x ∈ oddL lo hi, ∀ es', DiceOk (n + 1) es' → R x es') → odd es [.int lo, .int hi] R
theorem odd_ok : OddOk P__law_odd := @p_odd
theorem p_numbers {n : Nat} {es : List D} {P1 : Addr} {R : D → List D → Prop} (hd : DiceOk n es) (hn : n ≤ 900000) (h : ∀ es', DiceOk (n + 4) es' → R (.bool true) es') : P__law_numbers_right P1 es R := by
  intro a
  have po : OddOk P__law_odd := odd_ok
  have q1 := @t_held1
  have q2 := @t_held2
  have q3 := @t_held3
  have q4 := @t_great1
  have q5 := @t_great2
  have q6 := @t_least1
  have q7 := @t_least2
  have q8 := @t_least3
  unfold W__law_numbers_right
  generalize P__law_odd = odd at *
  generalize P_held_at = ha at *
  generalize P_greatest_depth = gd at *
  generalize P_least_term = lt at *
  generalize hq : (((("_law_numbers_right" : Str) ++ ".<locals>.") ++ "<lambda>") : Str) = q
  show wSeq _ _ _ [.dc a es, .no, .no, .no, .no, .no, .no, .tb P1 q]
  refine ⟨rfl, po hd (by omega) (by decide) fun s hs es1 hd1 => ?_⟩
  refine ⟨rfl, po hd1 (by omega) (by decide) fun t ht es2 hd2 => ?_⟩
  refine ⟨rfl, po hd2 (by omega) (by decide) fun d hdd es3 hd3 => ?_⟩
  refine ⟨rfl, po hd3 (by omega) (by decide) fun u hu es4 hd4 => ?_⟩
  obtain ⟨hs1, hs2⟩ := odd_of (odd16 s hs)
  obtain ⟨ht1, ht2⟩ := odd_of (odd1200 t ht)
  obtain ⟨hd1', hd2'⟩ := odd_of (odd16 d hdd)
  obtain ⟨hu1, hu2⟩ := odd_of (odd1200 u hu)
  refine ⟨Nat.le_of_ble_eq_true rfl, rfl, rfl, ?_⟩
  simp only [List.set_cons_zero, List.set_cons_succ, List.cons_append, List.nil_append, List.map_cons, List.map_nil]
  rw [e_seq, e_set, e_ol, e_cons]
  refine met_tells (ds := [s, t, d]) rfl (fun C h => h) (q1 hs1 hs2) ?_
  refine ⟨Nat.le_of_ble_eq_true rfl, ?_⟩
  simp only [List.set_cons_zero, List.set_cons_succ, List.cons_append, List.nil_append, List.map_cons, List.map_nil]
  rw [e_seq]
  refine app_tells (ds := [.int 2, t, d]) rfl (Nat.le_of_ble_eq_true rfl) rfl (fun C h => h) (q2 rfl ht1 ht2) ?_
  simp only [List.set_cons_zero, List.set_cons_succ, List.cons_append, List.nil_append, List.map_cons, List.map_nil]
  rw [e_seq]
  refine app_tells (ds := [.int 2, .int 200, d]) rfl (Nat.le_of_ble_eq_true rfl) rfl (fun C h => h) (q3 rfl rfl hd1' hd2') ?_
  simp only [List.set_cons_zero, List.set_cons_succ, List.cons_append, List.nil_append, List.map_cons, List.map_nil]
  rw [e_seq]
  refine app_tells (ds := [s, t]) rfl (Nat.le_of_ble_eq_true rfl) rfl (fun C h => h) (q4 hs1 hs2) ?_
  simp only [List.set_cons_zero, List.set_cons_succ, List.cons_append, List.nil_append, List.map_cons, List.map_nil]
  rw [e_seq]
  refine app_tells (ds := [.int 6, t]) rfl (Nat.le_of_ble_eq_true rfl) rfl (fun C h => h) (q5 rfl ht1 ht2) ?_
  simp only [List.set_cons_zero, List.set_cons_succ, List.cons_append, List.nil_append, List.map_cons, List.map_nil]
  rw [e_seq]
  refine app_tells (ds := [s, d, u]) rfl (Nat.le_of_ble_eq_true rfl) rfl (fun C h => h) (q6 hs1 hs2) ?_
  simp only [List.set_cons_zero, List.set_cons_succ, List.cons_append, List.nil_append, List.map_cons, List.map_nil]
  rw [e_seq]
  refine app_tells (ds := [.int 1, d, u]) rfl (Nat.le_of_ble_eq_true rfl) rfl (fun C h => h) (q7 rfl hd1' hd2') ?_
  simp only [List.set_cons_zero, List.set_cons_succ, List.cons_append, List.nil_append, List.map_cons, List.map_nil]
  rw [e_seq]
  refine app_tells (ds := [.int 1, .int 6, u]) rfl (Nat.le_of_ble_eq_true rfl) rfl (fun C h => h) (q8 rfl rfl hu1 hu2) ?_
  simp only [List.set_cons_zero, List.set_cons_succ, List.cons_append, List.nil_append, List.map_cons, List.map_nil]
  rw [e_ret, e_bin]
  rw [vo5, e_lc]
  refine ⟨Nat.le_of_ble_eq_true rfl, Nat.le_of_ble_eq_true rfl, rfl, ?_⟩
  refine comp_reprs [s, t, d, s, t, s, d, u] (fun x hx C hc => ?_) ?_
  · have ho : okD x = true := by
      simp only [List.mem_cons, List.not_mem_nil, or_false] at hx
      rcases hx with rfl | rfl | rfl | rfl | rfl | rfl | rfl | rfl <;> assumption
    exact ⟨okD_repr ho, hc⟩
  · have hsh : SeqAt.shaped (.list (([s, t, d, s, t, s, d, u].map reprD).map .str)) = true := shaped_strs fun z hz => by
      obtain ⟨x, hx, rfl⟩ := List.mem_map.mp hz
      simp only [List.mem_cons, List.not_mem_nil, or_false] at hx
      rcases hx with rfl | rfl | rfl | rfl | rfl | rfl | rfl | rfl <;> exact okD_lay ‹_›
    refine ⟨hsh, hsh, es4, rfl, fun t ht => by cases List.mem_singleton.mp ht; rw [← hq]; rfl, ?_⟩
    show R (.bool (PyData.eqv (.list (([s, t, d, s, t, s, d, u].map reprD).map .str)) (.list (([s, t, d, s, t, s, d, u].map reprD).map .str)))) es4
    rw [eqv_strs]
    exact h es4 hd4
end AF

set_option Elab.async false
set_option linter.all false
set_option maxRecDepth 100000
set_option maxHeartbeats 4000000
namespace AF
open PySem PySem.Spec PyProof.Rows L2
theorem le_r {a b : Nat} (h : Nat.ble a b = true) : a ≤ b := Nat.le_of_ble_eq_true h
theorem cpow60 : CPow 10 60 := by unfold CPow; decide
def e241 : List D := (List.replicate (241 : Int).toNat [.int 0]).flatten
def e240 : List D := (List.replicate (240 : Int).toNat [.int 0]).flatten
theorem e240_eq : e240 = (List.replicate 240 (0 : Int)).map .int := by
  unfold e240
  rw [List.map_replicate, show ((240 : Int).toNat) = 240 from rfl, List.flatten_replicate_singleton]
def endsL : List D := [.none, .int 5, .list [.int 1], .tuple [.int (-1)], .tuple [.bool true], .tuple [.str "1"], .tuple e241, empD, .tuple [.tuple [.int 1]], .tuple [.int (10 ^ 60)], .str "1"]
def readL : List D := [.none, .int (-1), .bool true, .str "0", .tuple [.int 0], .int (10 ^ 60)]
def ceilL : List D := [.int (-1), .bool true, .str "0", .tuple [.int 0], .int (10 ^ 60), empD]
def shEb : D → Bool
  | .tuple ds => decide (ds.length ≤ 1000)
  | _ => true
theorem shEb_ok {d : D} (h : shEb d = true) : shE d := by
  cases d <;> first | exact trivial | skip
  rename_i xs
  exact (of_decide_eq_true (show decide (xs.length ≤ 1000) = true from h) : xs.length ≤ 1000)
theorem ends_bad : ∀ x ∈ endsL, (!endsB x && shEb x) = true := by decide +kernel
theorem read_bad : ∀ x ∈ readL, (!tickB x && okD x) = true := by decide +kernel
theorem ceil_bad : ∀ x ∈ ceilL, (!(isNon x || tickB x) && okD x) = true := by decide +kernel
theorem two_of {a b : Bool} (h : (!a && b) = true) : a = false ∧ b = true := by simpa using h
section
variable {e r c : D}
theorem t_put1 (he : endsB e = false) (hs : shE e) : Tells P_put_at [e, r, c] "operation" := fun k h => p_put hs (ifF he (mr_op h))
theorem t_put2 (he : endsB e = true) (hs : shE e) (hr : tickB r = false) (ho : okD r = true) : Tells P_put_at [e, r, c] (reprD r) := fun k h => p_put hs (ifT he (ifF hr (mr_bad ho h)))
theorem t_put3 (he : endsB e = true) (hs : shE e) (hr : tickB r = true) (hc : (isNon c || tickB c) = false) (ho : okD c = true) : Tells P_put_at [e, r, c] (reprD c) := fun k h => p_put hs (ifT he (ifT hr (ifF hc (mr_bad ho h))))
theorem t_put4 : Tells P_put_at [.tuple e240, .int (10 ^ 60 - 1), .int 0] "fine" := fun k h => by
  rw [e240_eq]
  exact g_put (by rw [List.length_replicate]; decide) (fun i hi => by rw [(List.mem_replicate.mp hi).2]; decide +kernel) (by decide +kernel) (by decide +kernel) fun _ => h
end
theorem e240_b : endsB (.tuple e240) = true := by decide +kernel
theorem e240_s : shE (.tuple e240) := shEb_ok (by decide +kernel)
theorem one_s : shE (.tuple [.int 1]) := le_r rfl
theorem vo4' {s0 s1 s2 s3 : Sl} {d : List D} {E : Env'} {Q : VD → Env' → Prop} : wVar 4 (s0 :: s1 :: s2 :: s3 :: .ol d :: E) Q = Q (.own 4) (s0 :: s1 :: s2 :: s3 :: .ol d :: E) := rfl
theorem op_lay : PyData.canLay0 (.str "operation") = true := by decide +kernel
theorem p_ends {n : Nat} {es : List D} {P3 : Addr} {R : D → List D → Prop} (hd : DiceOk n es) (hn : n ≤ 900000) (h : ∀ es', DiceOk (n + 3) es' → R (.bool true) es') : P__law_ends_right P3 es R := by
  intro a
  have po : PickOk P__law_pick := @p_pick
  have q1 := @t_put1
  have q2 := @t_put2
  have q3 := @t_put3
  have q4 := t_put4
  unfold W__law_ends_right
  generalize P__law_pick = pick at *
  generalize P_put_at = pa at *
  generalize hq : (((("_law_ends_right" : Str) ++ ".<locals>.") ++ "<lambda>") : Str) = q
  show wSeq _ _ _ [.dc a es, .no, .no, .no, .no, .tb P3 q]
  refine ⟨le_r rfl, le_r rfl, le_r rfl, le_r rfl, le_r rfl, by simp, by decide, by decide, le_r rfl, le_r rfl, le_r rfl, cpow60, le_r rfl, le_r rfl, rfl, po hd (by omega) (.inl rfl) (Nat.lt_of_lt_of_le (by decide : 0 < 11) (Nat.le_refl _)) (le_r rfl) fun e he es1 hd1 => ?_⟩
  refine ⟨le_r rfl, cpow60, le_r rfl, rfl, po hd1 (by omega) (.inl rfl) (Nat.lt_of_lt_of_le (by decide : 0 < 6) (Nat.le_refl _)) (le_r rfl) fun r hr es2 hd2 => ?_⟩
  refine ⟨le_r rfl, cpow60, le_r rfl, rfl, po hd2 (by omega) (.inl rfl) (Nat.lt_of_lt_of_le (by decide : 0 < 6) (Nat.le_refl _)) (le_r rfl) fun c hc es3 hd3 => ?_⟩
  obtain ⟨e1, e2⟩ := two_of (ends_bad e he)
  obtain ⟨r1, r2⟩ := two_of (read_bad r hr)
  obtain ⟨c1, c2⟩ := two_of (ceil_bad c hc)
  simp only [onD_d, List.set_cons_zero, List.set_cons_succ, List.cons_append, List.nil_append, List.map_cons, List.map_nil]
  rw [e_seq, e_set, e_ol, e_cons]
  refine met_tells (ds := [e, r, c]) rfl (fun C h => h) (q1 e1 (shEb_ok e2)) ?_
  refine ⟨le_r rfl, ?_⟩
  simp only [onD_d, List.set_cons_zero, List.set_cons_succ, List.cons_append, List.nil_append, List.map_cons, List.map_nil]
  rw [e_seq]
  refine app_tells (ds := [.tuple [.int 1], r, c]) rfl (le_r rfl) rfl (fun C h => ⟨le_r rfl, h⟩) (q2 rfl one_s r1 r2) ?_
  simp only [onD_d, List.set_cons_zero, List.set_cons_succ, List.cons_append, List.nil_append, List.map_cons, List.map_nil]
  rw [e_seq]
  refine app_tells (ds := [.tuple e240, .int 3, c]) rfl (le_r rfl) rfl (fun C h => ⟨le_r rfl, by simp, by decide, by decide, le_r rfl, h⟩) (q3 e240_b e240_s rfl c1 c2) ?_
  simp only [onD_d, List.set_cons_zero, List.set_cons_succ, List.cons_append, List.nil_append, List.map_cons, List.map_nil]
  rw [e_ret, e_and, e_bin, vo4']
  refine ⟨okD_repr r2, okD_repr c2, le_r rfl, ?_⟩
  have hsh : SeqAt.shaped (.list (([("operation" : Str), reprD r, reprD c]).map .str)) = true := shaped_strs fun z hz => by
    simp only [List.mem_cons, List.not_mem_nil, or_false] at hz
    rcases hz with rfl | rfl | rfl
    · exact op_lay
    · exact okD_lay r2
    · exact okD_lay c2
  refine ⟨hsh, hsh, ?_⟩
  have ev := eqv_strs [("operation" : Str), reprD r, reprD c]
  show (if PyData.eqv (.list (([("operation" : Str), reprD r, reprD c]).map .str)) (.list (([("operation" : Str), reprD r, reprD c]).map .str)) = true then _ else _)
  rw [if_pos ev, e_bin]
  refine met_tells (ds := [.tuple e240, .int (10 ^ 60 - 1), .int 0]) rfl (fun C h => ⟨le_r rfl, by simp, by decide, by decide, le_r rfl, cpow60, h⟩) q4 ?_
  exact ⟨es3, rfl, fun t ht => by cases List.mem_singleton.mp ht; rw [← hq]; rfl, h es3 hd3⟩
end AF

set_option Elab.async false
set_option linter.all false
set_option maxRecDepth 100000
set_option maxHeartbeats 4000000
namespace AF
open PySem PySem.Spec PyProof.Rows L2
/-! ### the drawn reads -/
def aR : D := .tuple [.int 0, .tuple [.str "a"]]
def some1 : List D := [.none, .int 5, .list [aR], .tuple [.tuple [.int 0, .str "a"]], .tuple [.tuple [.int 0, .tuple []]], .tuple [.tuple [.int 0, .tuple [.str "b", .str "a"]]], .tuple [.tuple [.int 0, .tuple [.str "a", .str "a"]]], .tuple [.tuple [.int 1, .tuple [.str "a"]], aR]]
def some2 : List D := [.tuple [.tuple [.int (-1), .tuple [.str "a"]]], .tuple [.tuple [.bool true, .tuple [.str "a"]]], .tuple [.tuple [.int 0, .tuple [.str "A"]]], .tuple [.tuple [.int 0, .list [.str "a"]]], .tuple [.tuple [.int 0]], .tuple (List.replicate (61 : Int).toNat [aR]).flatten, empD, .tuple [.tuple [.int 0, .tuple [.str "a"], .int 1]]]
def some3 : List D := [.tuple [.tuple [.int 0, .tuple [.str "a", .str "b", .str "c", .str "d", .str "e", .str "f", .str "g"]]], .tuple [.tuple [.none, .tuple [.str "a"]]], .tuple [.tuple [.int 0, .tuple [.str "abcdefghi"]]], .tuple [.tuple [.int (10 ^ 60), .tuple [.str "a"]]]]
def shSb : D → Bool
  | .str x => decide (x.length ≤ 1000)
  | _ => true
theorem shSb_ok {d : D} (h : shSb d = true) : shS d := by
  cases d <;> first | exact trivial | skip
  rename_i x
  exact (of_decide_eq_true (show decide (x.length ≤ 1000) = true from h) : x.length ≤ 1000)
def shKb : D → Bool
  | .tuple ds => decide (ds.length ≤ 1000) && ds.all shSb
  | _ => true
theorem shKb_ok {d : D} (h : shKb d = true) : shK d := by
  cases d <;> first | exact trivial | skip
  rename_i ds
  obtain ⟨h1, h2⟩ := Bool.and_eq_true_iff.mp (show (decide (ds.length ≤ 1000) && ds.all shSb) = true from h)
  exact ⟨of_decide_eq_true h1, fun x hx => shSb_ok (List.all_eq_true.mp h2 x hx)⟩
def shRb : D → Bool
  | .tuple [_, b] => shKb b
  | _ => true
theorem shRb_ok {d : D} (h : shRb d = true) : shR d := by
  unfold shRb at h
  split at h
  · exact shKb_ok h
  · rename_i hn
    unfold shR
    split
    · exact absurd rfl (hn _ _)
    · trivial
def shRsb : D → Bool
  | .tuple ds => decide (ds.length ≤ 1000) && ds.all shRb
  | _ => true
theorem shRsb_ok {d : D} (h : shRsb d = true) : shRs d := by
  cases d <;> first | exact trivial | skip
  rename_i ds
  obtain ⟨h1, h2⟩ := Bool.and_eq_true_iff.mp (show (decide (ds.length ≤ 1000) && ds.all shRb) = true from h)
  exact ⟨of_decide_eq_true h1, fun x hx => shRb_ok (List.all_eq_true.mp h2 x hx)⟩
theorem reads_bad : ∀ x ∈ (some1 ++ some2) ++ some3, (!rdsB x && shRsb x) = true := by decide +kernel
/-! ### the six calls -/
section
variable {x y n : D} {fa fb c : Addr} {v0 : V}
theorem badR_held {RX : XD → Prop} (h : fromB x 0 200 = false) (q : RX (bad x)) : badR x y RX := ifF h q
theorem badR_reads {RX : XD → Prop} (h : fromB x 0 200 = true) (h2 : rdsB y = false) (q : RX badOp) : badR x y RX := ifT h (ifF h2 q)
/-- what each of the six tells -/
structure Six (x y n : D) (z1 z2 z3 z4 z5 z6 : Str) : Prop where
  t1 : Tells P_asks_of [x, y] z1
  t2 : Tells P_fewest_asks [x, y] z2
  t3 : Tells P_do_cover [x, y, .none] z3
  t4 : Tells P_are_apart [x, y, .tuple []] z4
  t5 : Tells P_asks_or_marks [x, y, n] z5
  t6 : Tells P_is_asks_or_marks [x, y, n, .none] z6
theorem six_bad {z : Str} (hs : shRs y) (h : ∀ k : Str → Prop, k z → badR x y (MR k)) : Six x y n z z z z z z :=
  ⟨fun k q => b_asks_of hs (h k q), fun k q => b_fewest_asks hs (h k q), fun k q => b_do_cover hs (h k q), fun k q => b_are_apart hs (h k q), fun k q => b_asks_or_marks hs (h k q), fun k q => b_is_asks_or_marks hs (h k q)⟩
theorem six_fine (hn : fromB n 0 400 = false) (ho : okD n = true) : Six (.int 200) (readsD rs60) n "fine" "fine" "fine" "fine" (reprD n) (reprD n) :=
  ⟨fun k q => g_asks_of right60 fun _ => q, fun k q => g_fewest_asks right60 fun _ => q, fun k q => g_do_cover right60 fun _ => q, fun k q => g_are_apart right60 fun _ => q, fun k q => n_asks_or_marks right60 hn (mr_bad ho q), fun k q => n_is_asks_or_marks right60 hn (mr_bad ho q)⟩
def fs6 (fa fb c : Addr) : List FnD := [.glob fa, .glob fb, .lam lam0 [], .lam lam1 [], .lam lam2 [("_law_number", c)], .lam lam3 [("_law_number", c)]]
theorem steps_cons {S : CalS} {w : WA} {Ef : FnD → Env'} {d : FnD} {rest : List FnD} {Q : List Str → Prop} {gs : List V} {gd ds : List D} {f : PX} {z : Str} (hS : S d gs gd f) (hg : GsIn (Ef d) gs gd) (ht : Tells f ds z) (hslot : (Ef d)[7]? = some (.fv d)) (hw : ∀ C : List VD → Env' → Prop, C (ds.map .d) (Ef d) → w (Ef d) C) (hl : ds.length = 2)
    (h : stepsF (fun d => lCallF 7 2 S w (Ef d)) "fine" (metR "InvalidNumber" "InvalidOperation" "given" "operation") rest fun zs => Q (z :: zs)) : stepsF (fun d => lCallF 7 2 S w (Ef d)) "fine" (metR "InvalidNumber" "InvalidOperation" "given" "operation") (d :: rest) Q :=
  ⟨d, gs, gd, f, hslot, hS, hg, hw _ ⟨rfl, by rw [frz_map]; exact ⟨hl, ht (fun z => stepsF (fun d => lCallF 7 2 S w (Ef d)) "fine" (metR "InvalidNumber" "InvalidOperation" "given" "operation") rest fun zs => Q (z :: zs)) h⟩⟩⟩
theorem six_steps {z1 z2 z3 z4 z5 z6 : Str} {w : WA} {Ef : FnD → Env'} {Q : List Str → Prop} (s : Six x y n z1 z2 z3 z4 z5 z6) (hslot : ∀ d, (Ef d)[7]? = some (.fv d)) (hv : ∀ d, (Ef d)[2]? = some (.vv v0 n)) (hw : ∀ d, ∀ C : List VD → Env' → Prop, C [.d x, .d y] (Ef d) → w (Ef d) C)
    (h : Q [z1, z2, z3, z4, z5, z6]) : stepsF (fun d => lCallF 7 2 (S_rr fa fb c v0 n) w (Ef d)) "fine" (metR "InvalidNumber" "InvalidOperation" "given" "operation") (fs6 fa fb c) Q := by
  unfold fs6
  refine steps_cons (ds := [x, y]) .a1 .nil s.t1 (hslot _) (hw _) rfl ?_
  refine steps_cons (ds := [x, y]) .a2 .nil s.t2 (hslot _) (hw _) rfl ?_
  refine steps_cons (ds := [x, y]) .l0 .nil (fun k q => ⟨rfl, s.t3 k q⟩) (hslot _) (hw _) rfl ?_
  refine steps_cons (ds := [x, y]) .l1 .nil (fun k q => ⟨le_r rfl, rfl, s.t4 k q⟩) (hslot _) (hw _) rfl ?_
  refine steps_cons (ds := [x, y]) .l2 (.cons ⟨2, hv _⟩ .nil) (fun k q => ⟨rfl, s.t5 k q⟩) (hslot _) (hw _) rfl ?_
  refine steps_cons (ds := [x, y]) .l3 (.cons ⟨2, hv _⟩ .nil) (fun k q => ⟨rfl, s.t6 k q⟩) (hslot _) (hw _) rfl ?_
  exact h
theorem lamq0 : lam0.q = (("_law_reads_right" ++ ".<locals>.") ++ "<lambda>") := rfl
theorem lamq1 : lam1.q = (("_law_reads_right" ++ ".<locals>.") ++ "<lambda>") := rfl
theorem lamq2 : lam2.q = (("_law_reads_right" ++ ".<locals>.") ++ "<lambda>") := rfl
theorem lamq3 : lam3.q = (("_law_reads_right" ++ ".<locals>.") ++ "<lambda>") := rfl
/-- the comprehension over the six -/
theorem six_comp {z1 z2 z3 z4 z5 z6 : Str} {w : WA} {E : Env'} {Q : VD → Env' → Prop} {P2 : Addr} {q : Str} (s : Six x y n z1 z2 z3 z4 z5 z6) (h5 : E[5]? = some (.fl (fs6 fa fb c))) (h2 : E[2]? = some (.fz n)) (h8 : E[8]? = some (.tb P2 q)) (h7 : E[7]? = some .no) (hlen : E.length = 9)
    (hw : ∀ v0 d, ∀ C : List VD → Env' → Prop, C [.d x, .d y] ((envF 5 2 v0 n E).set 7 (.fv d)) → w ((envF 5 2 v0 n E).set 7 (.fv d)) C) (h : Q (.d (.list ([z1, z2, z3, z4, z5, z6].map .str))) E) :
    wFnComp 8 7 5 2 2 P2 q "InvalidNumber" "InvalidOperation" "given" "operation" "fine" (S_rr fa fb c) w E Q := by
  refine ⟨fs6 fa fb c, n, h5, h2, h8, h7, le_r rfl, fun v0 => six_steps s (fun d => ?_) (fun d => ?_) (hw v0) h⟩
  · unfold envF
    rw [List.getElem?_set_self (by simp [hlen])]
  · unfold envF
    rw [List.getElem?_set_ne (by decide), List.getElem?_set_ne (by decide), List.getElem?_set_self (by simp [hlen])]
end
end AF

set_option Elab.async false
set_option linter.all false
set_option maxRecDepth 100000
set_option maxHeartbeats 4000000
namespace AF
open PySem PySem.Spec PyProof.Rows L2
theorem shaped_strs2 {zs : List Str} {d : D} (e : d = .list (zs.map .str)) (h : ∀ z ∈ zs, PyData.canLay0 (.str z) = true) : SeqAt.shaped d = true := by rw [e]; exact shaped_strs h
theorem eqv_strs2 {a b : D} (zs : List Str) (e1 : a = .list (zs.map .str)) (e2 : b = .list (zs.map .str)) : PyData.eqv a b = true := by rw [e1, e2]; exact eqv_strs zs
theorem fine_lay : PyData.canLay0 (.str "fine") = true := by decide +kernel
/-- if [..] != [..]: return False -/
theorem ne_skip {we wf : WE} {wr : WS} {Dd : EndsD} {E : Env'} {a b : D} (h1 : ∀ Q : VD → Env' → Prop, Q (.d a) E → we E Q) (h2 : ∀ Q : VD → Env' → Prop, Q (.d b) E → wf E Q) (zs : List Str) (e1 : a = .list (zs.map .str)) (e2 : b = .list (zs.map .str)) (hl : ∀ z ∈ zs, PyData.canLay0 (.str z) = true) (h : Dd.nx E) : wIfS (wB (wBin fNeD we wf)) wr wNx Dd E := by
  rw [e_ifS, e_B, e_bin]
  refine h1 _ (h2 _ ?_)
  rw [res_d, onO_some, res_d, onO_some, e_fNeD]
  refine ⟨shaped_strs2 e1 hl, shaped_strs2 e2 hl, ?_⟩
  rw [onB_d, eqv_strs2 zs e1 e2]
  exact h
theorem r60 : readsD rs60 = .tuple (List.replicate (60 : Int).toNat [aR]).flatten := by
  unfold readsD rs60
  rw [List.map_replicate, show ((60 : Int).toNat) = 60 from rfl, List.flatten_replicate_singleton]
  rfl
theorem p_reads {n : Nat} {es : List D} {fa fb P2 : Addr} {R : D → List D → Prop} (hd : DiceOk n es) (hn : n ≤ 900000) (h : ∀ es', DiceOk (n + 3) es' → R (.bool true) es') : P__law_reads_right fa fb P2 es R := by
  intro c a
  have po : PickOk P__law_pick := @p_pick
  have pd : OddOk P__law_odd := odd_ok
  unfold W__law_reads_right
  generalize P__law_pick = pick at *
  generalize P__law_odd = odd at *
  generalize hq : (((("_law_reads_right" : Str) ++ ".<locals>.") ++ "<lambda>") : Str) = q
  have l0 : lam0.q = q := hq ▸ lamq0
  have l1 : lam1.q = q := hq ▸ lamq1
  have l2 : lam2.q = q := hq ▸ lamq2
  have l3 : lam3.q = q := hq ▸ lamq3
  have hb : ∀ x ∈ (some1 ++ some2) ++ some3, rdsB x = false ∧ shRs x := fun x hx => by
    obtain ⟨h1, h2⟩ := two_of (reads_bad x hx)
    exact ⟨h1, shRsb_ok h2⟩
  have b200 := fun {x : D} (hx : x ∈ oddL 0 200) => odd_of (odd0200 x hx)
  have b400 := fun {x : D} (hx : x ∈ oddL 0 400) => odd_of (odd0400 x hx)
  show wSeq _ _ _ [.dc a es, .no, .no, .no, .no, .no, .no, .no, .tb P2 q]
  refine ⟨rfl, pd hd (by omega) (by decide) fun held hh es1 hd1 => ?_⟩
  refine ⟨rfl, pd hd1 (by omega) (by decide) fun num hnu es2 hd2 => ?_⟩
  simp only [onD_d, List.set_cons_zero, List.set_cons_succ]
  obtain ⟨hh1, hh2⟩ := b200 hh
  obtain ⟨hn1, hn2⟩ := b400 hnu
  repeat refine ⟨le_r rfl, ?_⟩
  refine ⟨by simp, by decide, by decide, ?_⟩
  repeat refine ⟨le_r rfl, ?_⟩
  refine ⟨cpow60, ?_⟩
  repeat refine ⟨le_r rfl, ?_⟩
  refine ⟨rfl, po hd2 (by omega) (.inl rfl) (Nat.lt_of_lt_of_le (by decide : 0 < 20) (Nat.le_refl _)) (le_r rfl) fun rs hrs es3 hd3 => ?_⟩
  obtain ⟨hr1, hr2⟩ := hb rs hrs
  simp only [onD_d, List.set_cons_zero, List.set_cons_succ]
  have r6 : ∀ z : Str, PyData.canLay0 (.str z) = true → ∀ y ∈ [z, z, z, z, z, z], PyData.canLay0 (.str y) = true := fun z hz y hy => by
    simp only [List.mem_cons, List.not_mem_nil, or_false] at hy
    rcases hy with rfl | rfl | rfl | rfl | rfl | rfl <;> exact hz
  refine ⟨by rw [l0]; rfl, le_r rfl, ?_⟩
  refine ⟨_, rfl, by rw [l1]; rfl, le_r rfl, ?_⟩
  refine ⟨_, rfl, by rw [l2]; rfl, le_r rfl, ?_⟩
  refine ⟨_, rfl, by rw [l3]; rfl, le_r rfl, ?_⟩
  simp only [onD_d, List.set_cons_zero, List.set_cons_succ, List.cons_append, List.nil_append]
  rw [e_seq]
  refine ne_skip (a := .list ([reprD held, reprD held, reprD held, reprD held, reprD held, reprD held].map .str)) (b := .list (List.replicate (6 : Int).toNat [.str (reprD held)]).flatten)
    (fun Q hQ => six_comp (fa := fa) (fb := fb) (c := c) (x := held) (y := rs) (six_bad hr2 fun k q => badR_held hh1 (mr_bad hh2 q)) rfl rfl rfl rfl rfl (fun v0 d C hC => hC) hQ) (fun Q hQ => ⟨okD_repr hh2, le_r rfl, by decide, by decide, le_r rfl, hQ⟩)
    [reprD held, reprD held, reprD held, reprD held, reprD held, reprD held] rfl rfl (r6 _ (okD_lay hh2)) ?_
  dsimp only
  rw [e_seq]
  refine ne_skip (a := .list ([("operation" : Str), "operation", "operation", "operation", "operation", "operation"].map .str)) (b := .list (List.replicate (6 : Int).toNat [.str "operation"]).flatten)
    (fun Q hQ => six_comp (fa := fa) (fb := fb) (c := c) (x := .int 7) (y := rs) (six_bad hr2 fun k q => badR_reads rfl hr1 (mr_op q)) rfl rfl rfl rfl rfl (fun v0 d C hC => hC) hQ) (fun Q hQ => ⟨le_r rfl, by decide, by decide, le_r rfl, hQ⟩)
    [("operation" : Str), "operation", "operation", "operation", "operation", "operation"] rfl rfl (r6 _ op_lay) ?_
  refine ⟨le_r rfl, le_r rfl, le_r rfl, by simp, by decide, by decide, le_r rfl, ?_⟩
  simp only [onD_d, List.set_cons_zero, List.set_cons_succ]
  rw [e_ret, e_bin]
  refine six_comp (fa := fa) (fb := fb) (c := c) (x := .int 200) (y := readsD rs60) (six_fine hn1 hn2) rfl rfl rfl rfl rfl (fun v0 d C hC => ?_) ?_
  · rw [r60] at hC
    exact hC
  · refine ⟨le_r rfl, by decide, by decide, le_r rfl, okD_repr hn2, le_r rfl, by decide, by decide, le_r rfl, le_r rfl, ?_⟩
    have hl : ∀ z ∈ [("fine" : Str), "fine", "fine", "fine", reprD num, reprD num], PyData.canLay0 (.str z) = true := fun z hz => by
      simp only [List.mem_cons, List.not_mem_nil, or_false] at hz
      rcases hz with rfl | rfl | rfl | rfl | rfl | rfl
      · exact fine_lay
      · exact fine_lay
      · exact fine_lay
      · exact fine_lay
      · exact okD_lay hn2
      · exact okD_lay hn2
    have hsh := shaped_strs hl
    refine ⟨hsh, hsh, es3, rfl, fun t ht => by cases List.mem_singleton.mp ht; rw [← hq]; rfl, ?_⟩
    show R (.bool (PyData.eqv (.list ([("fine" : Str), "fine", "fine", "fine", reprD num, reprD num].map .str)) (.list ([("fine" : Str), "fine", "fine", "fine", reprD num, reprD num].map .str)))) es3
    rw [eqv_strs]
    exact h es3 hd3
end AF

set_option Elab.async false
set_option linter.all false
set_option maxRecDepth 100000
set_option maxHeartbeats 4000000
namespace AF
open PySem PySem.Spec PyProof.Rows L2
section
variable {E : Env'} {Q : VD → Env' → Prop}
theorem vf0 {d : D} : wVar 0 (.fz d :: E) Q = Q (.d d) (.fz d :: E) := rfl
theorem vf1 {s0 : Sl} {d : D} : wVar 1 (s0 :: .fz d :: E) Q = Q (.d d) (s0 :: .fz d :: E) := rfl
theorem vf2 {s0 s1 : Sl} {d : D} : wVar 2 (s0 :: s1 :: .fz d :: E) Q = Q (.d d) (s0 :: s1 :: .fz d :: E) := rfl
theorem vf3 {s0 s1 s2 : Sl} {d : D} : wVar 3 (s0 :: s1 :: s2 :: .fz d :: E) Q = Q (.d d) (s0 :: s1 :: s2 :: .fz d :: E) := rfl
end
theorem atI_ok {α : Type} {xs : List α} {i : Int} (h0 : 0 ≤ i) (h1 : i < xs.length) : ∃ x ∈ xs, atI xs i = some x := by
  have hk : i.toNat < xs.length := by omega
  refine ⟨_, List.getElem_mem hk, ?_⟩
  have := atI_nat (List.getElem?_eq_getElem hk)
  rwa [show ((i.toNat : Nat) : Int) = i by omega] at this
theorem e_lenScr {l : List (D × D)} {k : D → Prop} : fLen [.dict l] k = onO (scrI l) fun ns => k (.int ns.length) := rfl
theorem e_ixScr {xs : List (D × D)} {i : Int} {k : D → Prop} : fIx (.dict xs) (.int i) k = onO (scrI xs) fun ns => onO (atI ns i) fun n => k (.int n) := rfl
def scrD (ns : List Int) : D := .dict (ns.map fun n => (.int n, .none))
theorem p_dice {ns : List Int} {i : Int} {R : List D → Prop} (i0 : 0 ≤ i) (i1 : i < 1000) (h : ∀ es, DiceOk 0 es → R es) : P__law_dice [scrD ns, .int i] R := by
  refine ⟨rfl, ?_⟩
  unfold W__law_dice scrD
  simp only [startE, List.map_cons, List.map_nil, List.cons_append, List.nil_append, List.length_cons, List.length_nil, List.replicate]
  unfold wlSeq
  rw [e_set, e_fz, e_if, e_B, e_bin, vf1, e_call, e_cons, vf0, e_nil]
  try simp only [List.set_cons_zero, List.set_cons_succ, List.getElem?_cons_zero, List.getElem?_cons_succ, frz_cons, frz_nil, Option.map_some, onO_some, onD_d, onI_i, res_d, ress_cons, ress_nil, Option.bind_some]
  rw [e_lenScr, scrI_map, onO_some]
  try simp only [List.set_cons_zero, List.set_cons_succ, List.getElem?_cons_zero, List.getElem?_cons_succ, frz_cons, frz_nil, Option.map_some, onO_some, onD_d, onI_i, res_d, ress_cons, ress_nil, Option.bind_some]
  rw [e_fB]
  try simp only [List.set_cons_zero, List.set_cons_succ, List.getElem?_cons_zero, List.getElem?_cons_succ, frz_cons, frz_nil, Option.map_some, onO_some, onD_d, onI_i, res_d, ress_cons, ress_nil, Option.bind_some]
  rw [onB_d]
  have rest : ∀ c : Int, (wlSeq (wSet 3 (wFz (wBin (fIC (fun _ j => 0 < j) fun i j => i % j) (wCall (f2I fun i j => if j > i then j else i) (wCons (wC (.int 0)) (wCons (wBin (fI fun i j => i - j) (wCall (f1I fun i => if i < 0 then -i else i) (wCons (wVar 2) wNil)) (wBin (fIC CPow fun i j => i ^ j.toNat) (wC (.int 10)) (wC (.int 16)))) wNil))) (wBin (fIC CMulW fun i j => i * j) (wBin (fIC CPow fun i j => i ^ j.toNat) (wC (.int 10)) (wC (.int 58))) (wBin (fIC CPow fun i j => i ^ j.toNat) (wC (.int 10)) (wC (.int 60))))))) (wlRet (wCons (wVar 3) (wCons (wBin (fI fun i j => i + j) (wBin (fI fun i j => i + j) (wBin (fI fun i j => i + j) (wBin (fIC CMulW fun i j => i * j) (wBin (fIC (fun _ j => 0 < j) fun i j => i % j) (wCall (f1I fun i => if i < 0 then -i else i) (wCons (wVar 2) wNil)) (wC (.int 1152921504606846883))) (wC (.int 97))) (wBin (fIC CMulW fun i j => i * j) (wC (.int 1009)) (wVar 1))) (wBin (fIC CMulW fun i j => i * j) (wC (.int 53)) (wCall fInt (wCons (wBin (fB fun i j => decide (i < j)) (wVar 2) (wC (.int 0))) wNil)))) (wC (.int 29))) (wCons (wC (.int 0)) wNil))))) (fun es _ => R es) [.fz (scrD ns), .fz (.int i), .fz (.int c), .no] := by
    intro c
    unfold wlSeq
    rw [e_set, e_fz, e_bin, e_call, e_cons, e_C, e_cons, e_bin, e_call, e_cons, vf2, e_nil]
    rw [ress_cons, res_d, Option.bind_some, ress_nil, Option.map_some, onO_some, e_1I, e_bin, e_C, e_C]
    rw [res_d, onO_some, res_d, onO_some, e_fIC, onI_i, onI_i]
    refine ⟨by unfold CPow; decide, ?_⟩
    rw [res_d, onO_some, res_d, onO_some, e_fI, onI_i, onI_i, e_nil, ress_cons, res_d, Option.bind_some, ress_cons, res_d, Option.bind_some, ress_nil, Option.map_some, Option.map_some, onO_some, e_2I]
    rw [e_bin, e_bin, e_C, e_C, res_d, onO_some, res_d, onO_some, e_fIC, onI_i, onI_i]
    refine ⟨by unfold CPow; decide, ?_⟩
    rw [e_bin, e_C, e_C, res_d, onO_some, res_d, onO_some, e_fIC, onI_i, onI_i]
    refine ⟨by unfold CPow; decide, ?_⟩
    rw [res_d, onO_some, res_d, onO_some, e_fIC, onI_i, onI_i]
    refine ⟨mulw (by decide) (by decide), ?_⟩
    rw [res_d, onO_some, res_d, onO_some, e_fIC, onI_i, onI_i]
    refine ⟨by decide, ?_⟩
    generalize (if (if c < 0 then -c else c) - 10 ^ Int.toNat 16 > 0 then (if c < 0 then -c else c) - 10 ^ Int.toNat 16 else 0) % (10 ^ Int.toNat 58 * 10 ^ Int.toNat 60) = l
    rw [onD_d]
    dsimp only
    unfold wlRet
    rw [List.set_cons_succ, List.set_cons_succ, List.set_cons_succ, List.set_cons_zero]
    rw [e_cons, vf3, e_cons, e_bin, e_bin, e_bin, e_bin, e_bin, e_call, e_cons, vf2, e_nil, ress_cons, res_d, Option.bind_some, ress_nil, Option.map_some, onO_some, e_1I]
    rw [e_C, res_d, onO_some, res_d, onO_some, e_fIC, onI_i, onI_i]
    refine ⟨by decide, ?_⟩
    have b1 : 0 ≤ (if c < 0 then -c else c) % 1152921504606846883 := Int.emod_nonneg _ (by decide)
    have b2 : (if c < 0 then -c else c) % 1152921504606846883 < 1152921504606846883 := Int.emod_lt_of_pos _ (by decide)
    generalize (if c < 0 then -c else c) % 1152921504606846883 = m at *
    rw [e_C, res_d, onO_some, res_d, onO_some, e_fIC, onI_i, onI_i]
    refine ⟨mulw (nat200 b1 (Int.lt_trans b2 (by decide))) (by decide), ?_⟩
    rw [e_bin, e_C, vf1, res_d, onO_some, res_d, onO_some, e_fIC, onI_i, onI_i]
    refine ⟨mulw (by decide) (nat200 i0 (Int.lt_trans i1 (by decide))), ?_⟩
    rw [res_d, onO_some, res_d, onO_some, e_fI, onI_i, onI_i]
    rw [e_bin, e_C, e_call, e_cons, e_bin, vf2, e_C, res_d, onO_some, res_d, onO_some, e_fB, onI_i, onI_i, e_nil, ress_cons, res_d, Option.bind_some, ress_nil, Option.map_some, onO_some, e_intB, res_d, onO_some, res_d, onO_some, e_fIC, onI_i, onI_i]
    refine ⟨mulw (by decide) (by split <;> decide), ?_⟩
    rw [res_d, onO_some, res_d, onO_some, e_fI, onI_i, onI_i, e_C, res_d, onO_some, res_d, onO_some, e_fI, onI_i, onI_i, e_cons, e_C, e_nil]
    rw [frz_cons, frz_cons, frz_cons, frz_nil, Option.map_some, Option.map_some, Option.map_some, onO_some]
    exact ⟨Nat.le_of_ble_eq_true rfl, h _ ⟨_, _, _, rfl, Int.le_refl _, Int.le_refl _⟩⟩
  by_cases hlt : i < (ns.length : Int)
  · obtain ⟨n, hn, ex⟩ := atI_ok (xs := ns) i0 hlt
    rw [if_pos (decide_eq_true hlt), e_call, e_cons, e_bin, vf0, vf1, res_d, onO_some, res_d, onO_some, e_ixScr, scrI_map, onO_some, ex, onO_some, e_nil, ress_cons, res_d, Option.bind_some, ress_nil, Option.map_some, onO_some]
    try dsimp only
    rw [e_intI, onD_d]
    exact rest n
  · rw [if_neg (by rw [decide_eq_false hlt]; decide), e_bin, e_bin, e_C, vf1, res_d, onO_some, res_d, onO_some, e_fIC, onI_i, onI_i]
    refine ⟨mulw (by decide) (nat200 i0 (Int.lt_trans i1 (by decide))), ?_⟩
    rw [e_C, res_d, onO_some, res_d, onO_some, e_fI, onI_i, onI_i, onD_d]
    exact rest _
end AF

set_option Elab.async false
set_option linter.all false
set_option maxRecDepth 100000
set_option maxHeartbeats 4000000
namespace AF
open PySem PySem.Spec PyProof.Rows L2
theorem t_aom {i : Int} (h : fromB (.int i) 0 400 = true) : Tells P_asks_or_marks [.int 0, .tuple [], .int i] "fine" := fun k q => g_asks_or_marks (rs := []) right0 h fun _ => q
theorem p_law {ns : List Int} {R : D → Prop} {fa fb P0 P1 P2 P3 : Addr} (hl : ns.length ≤ 63) (h : R (.bool true)) : P_law fa fb P0 P1 P2 P3 [scrD ns] R := by
  refine ⟨rfl, ?_⟩
  have f1 := @p_dice ns
  have f2 := @p_numbers
  have f3 := @p_reads
  have f4 := @p_ends
  have f5 := @t_aom
  unfold W_law
  generalize P__law_dice = dic at *
  generalize P__law_numbers_right = nr at *
  generalize P__law_reads_right = rr at *
  generalize P__law_ends_right = er at *
  generalize P_asks_or_marks = aom at *
  show wSeq _ _ _ [.fz (scrD ns), .no, .no, .no, .no, .tb P0 (("law" ++ ".<locals>.") ++ "<lambda>"), .tb P1 (("_law_numbers_right" ++ ".<locals>.") ++ "<lambda>"), .tb P2 (("_law_reads_right" ++ ".<locals>.") ++ "<lambda>"), .tb P3 (("_law_ends_right" ++ ".<locals>.") ++ "<lambda>")]
  generalize ((("law" ++ ".<locals>.") ++ "<lambda>") : Str) = q0
  generalize ((("_law_numbers_right" ++ ".<locals>.") ++ "<lambda>") : Str) = q1
  generalize ((("_law_reads_right" ++ ".<locals>.") ++ "<lambda>") : Str) = q2
  generalize ((("_law_ends_right" ++ ".<locals>.") ++ "<lambda>") : Str) = q3
  rw [e_seq, e_for]
  unfold wiRng1
  rw [e_call, e_cons, e_C, e_cons, e_call, e_cons, e_C, e_cons, e_call, e_cons, vf0, e_nil, ress_cons, res_d, Option.bind_some, ress_nil, Option.map_some, onO_some]
  unfold scrD at *
  rw [e_lenScr, scrI_map, onO_some, e_nil, ress_cons, res_d, Option.bind_some, ress_cons, res_d, Option.bind_some, ress_nil, Option.map_some, Option.map_some, onO_some, e_2I, e_nil, ress_cons, res_d, Option.bind_some, ress_cons, res_d, Option.bind_some, ress_nil, Option.map_some, Option.map_some, onO_some, e_2I, onD_d, onI_i]
  generalize hk : (if (if (ns.length : Int) < 3 then (ns.length : Int) else 3) > 1 then (if (ns.length : Int) < 3 then (ns.length : Int) else 3) else 1) = k
  have k1 : 1 ≤ k ∧ k ≤ 3 := by
    subst hk
    split <;> (try split) <;> omega
  refine ⟨⟨by omega, by omega⟩, ?_⟩
  unfold rngD
  refine loop_pre (fun pre E => ∃ s1 s2 s3, E = [.fz (.dict (ns.map fun n => (.int n, .none))), s1, s2, s3, .no, .tb P0 q0, .tb P1 q1, .tb P2 q2, .tb P3 q3]) (fun i : Nat => .int (0 + (i : Int))) (List.range k.toNat) (fun pre i post E nx ers hi hn2 => ?_) ⟨_, _, _, rfl⟩ fun E hi => ?_
  · obtain ⟨s1, s2, s3, rfl⟩ := hi
    have hi4 : i < k.toNat := List.mem_range.mp (by rw [ers]; simp)
    show wgName 1 _ _ _
    rw [e_gName, List.set_cons_succ, List.set_cons_zero, e_seq, e_set]
    unfold wFunL
    rw [e_cons, vf0, e_cons, vf1, e_nil, frz_cons, frz_cons, frz_nil, Option.map_some, Option.map_some, onO_some]
    refine f1 (by omega) (by omega) fun es hd p => ?_
    dsimp only
    rw [List.set_cons_succ, List.set_cons_succ, List.set_cons_zero, e_for, e_C, onD_d, onI_i]
    refine ⟨⟨by omega, by omega⟩, ?_⟩
    refine loop_pre (fun pre E => ∃ s3 es, DiceOk (10 * pre.length) es ∧ E = [.fz (.dict (ns.map fun n => (.int n, .none))), .fz (.int (0 + (i : Int))), .dc p es, s3, .no, .tb P0 q0, .tb P1 q1, .tb P2 q2, .tb P3 q3]) (fun i : Nat => .int (0 + (i : Int))) (List.range (3 : Int).toNat) (fun pre2 i2 post2 E2 nx2 ers2 hi2 hn3 => ?_) ⟨_, es, hd, rfl⟩ fun E2 hi2 => ?_
    · obtain ⟨s3', es', hd', rfl⟩ := hi2
      have hlen := congrArg List.length ers2
      rw [List.length_range, List.length_append, List.length_cons] at hlen
      have hp : pre2.length < 3 := by
        have : (3 : Int).toNat = 3 := rfl
        omega
      show wgName 3 _ _ _
      rw [e_gName, List.set_cons_succ, List.set_cons_succ, List.set_cons_succ, List.set_cons_zero, e_ifS, e_orT, e_notT, e_B]
      refine ⟨fun t ht => by cases List.mem_singleton.mp ht; rfl, f2 hd' (by omega) fun es2 hd2 => ?_⟩
      dsimp only
      rw [onB_d, if_neg (by decide), e_orT, e_notT, e_B]
      refine ⟨fun t ht => by cases List.mem_singleton.mp ht; rfl, f3 hd2 (by omega) fun es3 hd3 => ?_⟩
      dsimp only
      rw [onB_d, if_neg (by decide), e_notT, e_B]
      refine ⟨fun t ht => by cases List.mem_singleton.mp ht; rfl, f4 hd3 (by omega) fun es4 hd4 => ?_⟩
      dsimp only
      rw [onB_d, if_neg (by decide)]
      refine hn3 _ ⟨_, es4, ?_, rfl⟩
      rw [List.length_append, List.length_singleton]
      exact hd4.mono (by omega)
    · obtain ⟨s3', es', hd', rfl⟩ := hi2
      exact hn2 _ ⟨_, _, _, rfl⟩
  · obtain ⟨s1, s2, s3, rfl⟩ := hi
    dsimp only
    rw [e_seq, e_set, e_ol, e_cons]
    refine met_tells (ds := [.int 0, .tuple [], .int 400]) rfl (fun C h => ⟨le_r rfl, h⟩) (f5 rfl) ?_
    refine ⟨le_r rfl, ?_⟩
    simp only [List.set_cons_zero, List.set_cons_succ]
    rw [e_seq]
    refine app_tells (ds := [.int 0, .tuple [], .int 0]) rfl (le_r rfl) rfl (fun C h => ⟨le_r rfl, h⟩) (f5 rfl) ?_
    simp only [List.set_cons_zero, List.set_cons_succ, List.cons_append, List.nil_append]
    rw [e_ret, e_bin, vo4']
    refine ⟨le_r rfl, ?_⟩
    have hl2 : ∀ z ∈ [("fine" : Str), "fine"], PyData.canLay0 (.str z) = true := fun z hz => by
      simp only [List.mem_cons, List.not_mem_nil, or_false] at hz
      rcases hz with rfl | rfl <;> exact fine_lay
    have hsh := shaped_strs hl2
    refine ⟨hsh, hsh, ?_⟩
    show R (.bool (PyData.eqv (.list ([("fine" : Str), "fine"].map .str)) (.list ([("fine" : Str), "fine"].map .str))))
    rw [eqv_strs]
    exact h
end AF

set_option Elab.async false
set_option linter.all false
set_option maxRecDepth 100000
set_option maxHeartbeats 0
namespace AF
open PySem PySem.Spec PyProof.Rows L2
def dd_is_whole : He.DefD := ⟨("is_whole", none), "is_whole", "is_whole", defArgs (top 6), defBody (top 6), defScope (top 6), [], []⟩
def dd_is_short : He.DefD := ⟨("is_short", none), "is_short", "is_short", defArgs (top 7), defBody (top 7), defScope (top 7), [], []⟩
def dd_is_from : He.DefD := ⟨("is_from", none), "is_from", "is_from", defArgs (top 8), defBody (top 8), defScope (top 8), [], []⟩
def dd_is_tick : He.DefD := ⟨("is_tick", none), "is_tick", "is_tick", defArgs (top 9), defBody (top 9), defScope (top 9), [], []⟩
def dd_is_key : He.DefD := ⟨("is_key", none), "is_key", "is_key", defArgs (top 15), defBody (top 15), defScope (top 15), [], []⟩
def dd_are_keys : He.DefD := ⟨("are_keys", none), "are_keys", "are_keys", defArgs (top 31), defBody (top 31), defScope (top 31), [], []⟩
def dd_is_read : He.DefD := ⟨("is_read", none), "is_read", "is_read", defArgs (top 32), defBody (top 32), defScope (top 32), [], []⟩
def dd_are_reads : He.DefD := ⟨("are_reads", none), "are_reads", "are_reads", defArgs (top 33), defBody (top 33), defScope (top 33), [], []⟩
def dd_is_mark : He.DefD := ⟨("is_mark", none), "is_mark", "is_mark", defArgs (top 34), defBody (top 34), defScope (top 34), [], []⟩
def dd_are_marks_of : He.DefD := ⟨("are_marks_of", none), "are_marks_of", "are_marks_of", defArgs (top 35), defBody (top 35), defScope (top 35), [], []⟩
def dd_asks_in : He.DefD := ⟨("asks_in", none), "asks_in", "asks_in", defArgs (top 37), defBody (top 37), defScope (top 37), [], []⟩
def dd_do_cover_in : He.DefD := ⟨("do_cover_in", none), "do_cover_in", "do_cover_in", defArgs (top 38), defBody (top 38), defScope (top 38), [], []⟩
def dd_are_apart_in : He.DefD := ⟨("are_apart_in", none), "are_apart_in", "are_apart_in", defArgs (top 39), defBody (top 39), defScope (top 39), [], []⟩
def dd_marks_in : He.DefD := ⟨("marks_in", none), "marks_in", "marks_in", defArgs (top 36), defBody (top 36), defScope (top 36), [], []⟩
def dd_require_from : He.DefD := ⟨("require_from", none), "require_from", "require_from", defArgs (top 10), defBody (top 10), defScope (top 10), [], []⟩
def dd_require_tick : He.DefD := ⟨("require_tick", none), "require_tick", "require_tick", defArgs (top 11), defBody (top 11), defScope (top 11), [], []⟩
def dd_require_spread : He.DefD := ⟨("require_spread", none), "require_spread", "require_spread", defArgs (top 20), defBody (top 20), defScope (top 20), [], []⟩
def dd_require_reads : He.DefD := ⟨("require_reads", none), "require_reads", "require_reads", defArgs (top 40), defBody (top 40), defScope (top 40), [], []⟩
def dd_require_number : He.DefD := ⟨("require_number", none), "require_number", "require_number", defArgs (top 41), defBody (top 41), defScope (top 41), [], []⟩
def dd_held_at : He.DefD := ⟨("held_at", none), "held_at", "held_at", defArgs (top 42), defBody (top 42), defScope (top 42), [], []⟩
def dd_greatest_depth : He.DefD := ⟨("greatest_depth", none), "greatest_depth", "greatest_depth", defArgs (top 43), defBody (top 43), defScope (top 43), [], []⟩
def dd_least_term : He.DefD := ⟨("least_term", none), "least_term", "least_term", defArgs (top 44), defBody (top 44), defScope (top 44), [], []⟩
def dd_asks_of : He.DefD := ⟨("asks_of", none), "asks_of", "asks_of", defArgs (top 45), defBody (top 45), defScope (top 45), [], []⟩
def dd_fewest_asks : He.DefD := ⟨("fewest_asks", none), "fewest_asks", "fewest_asks", defArgs (top 46), defBody (top 46), defScope (top 46), [], []⟩
def dd_do_cover : He.DefD := ⟨("do_cover", none), "do_cover", "do_cover", defArgs (top 47), defBody (top 47), defScope (top 47), [], []⟩
def dd_are_apart : He.DefD := ⟨("are_apart", none), "are_apart", "are_apart", defArgs (top 48), defBody (top 48), defScope (top 48), [], []⟩
def dd_asks_or_marks : He.DefD := ⟨("asks_or_marks", none), "asks_or_marks", "asks_or_marks", defArgs (top 49), defBody (top 49), defScope (top 49), [], []⟩
def dd_is_asks_or_marks : He.DefD := ⟨("is_asks_or_marks", none), "is_asks_or_marks", "is_asks_or_marks", defArgs (top 50), defBody (top 50), defScope (top 50), [], []⟩
def dd_put_at : He.DefD := ⟨("put_at", none), "put_at", "put_at", defArgs (top 51), defBody (top 51), defScope (top 51), [.non], []⟩
def dd__law_dice : He.DefD := ⟨("_law_dice", none), "_law_dice", "_law_dice", defArgs (top 53), defBody (top 53), defScope (top 53), [], []⟩
def dd__law_roll : He.DefD := ⟨("_law_roll", none), "_law_roll", "_law_roll", defArgs (top 54), defBody (top 54), defScope (top 54), [], []⟩
def dd__law_pick : He.DefD := ⟨("_law_pick", none), "_law_pick", "_law_pick", defArgs (top 55), defBody (top 55), defScope (top 55), [], []⟩
def dd__law_odd : He.DefD := ⟨("_law_odd", none), "_law_odd", "_law_odd", defArgs (top 57), defBody (top 57), defScope (top 57), [], []⟩
def dd__law_met : He.DefD := ⟨("_law_met", none), "_law_met", "_law_met", defArgs (top 56), defBody (top 56), defScope (top 56), [], []⟩
def dd__law_numbers_right : He.DefD := ⟨("_law_numbers_right", none), "_law_numbers_right", "_law_numbers_right", defArgs (top 58), defBody (top 58), defScope (top 58), [], []⟩
def dd__law_reads_right : He.DefD := ⟨("_law_reads_right", none), "_law_reads_right", "_law_reads_right", defArgs (top 59), defBody (top 59), defScope (top 59), [], []⟩
def dd__law_ends_right : He.DefD := ⟨("_law_ends_right", none), "_law_ends_right", "_law_ends_right", defArgs (top 60), defBody (top 60), defScope (top 60), [], []⟩
def dd_law : He.DefD := ⟨("law", none), "law", "law", defArgs (top 61), defBody (top 61), defScope (top 61), [], []⟩
def hfn_0 : List He.DefD := [dd_is_whole, dd_is_short, dd_is_from, dd_is_tick, dd_is_key, dd_are_keys, dd_is_read, dd_are_reads, dd_is_mark, dd_are_marks_of, dd_asks_in, dd_do_cover_in, dd_are_apart_in, dd_marks_in, dd_require_from, dd_require_tick, dd_require_spread, dd_require_reads, dd_require_number, dd_held_at, dd_greatest_depth, dd_least_term, dd_asks_of, dd_fewest_asks, dd_do_cover, dd_are_apart, dd_asks_or_marks, dd_is_asks_or_marks, dd_put_at, dd__law_dice]
def hfn_1 : List He.DefD := [dd__law_roll, dd__law_pick, dd__law_odd, dd__law_met, dd__law_numbers_right, dd__law_reads_right, dd__law_ends_right, dd_law]
def hfn : List He.DefD := hfn_0 ++ hfn_1
def hfa_0 : List He.Fa := [.glo "is_whole", .glo "is_short", .glo "is_from", .glo "is_tick", .glo "is_key", .glo "are_keys", .glo "is_read", .glo "are_reads", .glo "is_mark", .glo "are_marks_of", .glo "asks_in", .glo "do_cover_in", .glo "are_apart_in", .glo "marks_in", .glo "require_from", .glo "require_tick", .glo "require_spread", .glo "require_reads", .glo "require_number", .glo "held_at", .glo "greatest_depth", .glo "least_term", .glo "asks_of", .glo "fewest_asks", .glo "do_cover", .glo "are_apart", .glo "asks_or_marks", .glo "is_asks_or_marks", .glo "put_at", .glo "_law_dice"]
def hfa_1 : List He.Fa := [.glo "_law_roll", .glo "_law_pick", .glo "_law_odd", .glo "_law_met", .glo "_law_numbers_right", .glo "_law_reads_right", .glo "_law_ends_right", .glo "law", .free "isinstance", .free "int", .free "bool", .free "str", .free "tuple", .free "list", .free "len", .free "all", .free "any", .free "zip", .free "sorted", .free "range", .free "max", .free "min", .free "abs", .free "repr", .free "super", .int "GREATEST" 1000000000000000000000000000000000000000000000000000000000000, .int "MOST_KEY" 8, .str "LETTERS" "abcdefghijklmnopqrstuvwxyz", .int "MAX_SPREAD" 6, .int "MAX_DEPTH" 6]
def hfa_2 : List He.Fa := [.int "MAX_READS" 60, .int "MAX_HELD" 200, .int "MAX_TERM" 200, .int "MAX_ASKED" 400, .int "MAX_KEYS" 6, .int "MAX_ENDS" 240, .int "PAIR" 2, .str "ASKS" "asks", .str "MARKS" "marks", .glo "InvalidNumber", .glo "InvalidOperation", .exc "InvalidOperation", .noat "InvalidNumber" "given", .exm "InvalidNumber" "InvalidNumber" true, .exm "InvalidOperation" "InvalidNumber" false, .exm "InvalidOperation" "InvalidOperation" true]
def hfa : List He.Fa := hfa_0 ++ hfa_1 ++ hfa_2
def hnames_0 : List Str := ["MomentError", "InvalidOperation", "InvalidNumber", "GREATEST", "is_whole", "is_short", "is_from", "is_tick", "require_from", "require_tick", "MOST_KEY", "LETTERS", "is_key", "MAX_SPREAD", "MAX_DEPTH", "power_in", "require_spread", "MAX_READS", "MAX_HELD", "MAX_TERM", "MAX_ASKED", "MAX_KEYS", "MAX_ENDS", "PAIR", "ASKS", "MARKS", "are_keys", "is_read", "are_reads", "is_mark"]
def hnames_1 : List Str := ["are_marks_of", "marks_in", "asks_in", "do_cover_in", "are_apart_in", "require_reads", "require_number", "held_at", "greatest_depth", "least_term", "asks_of", "fewest_asks", "do_cover", "are_apart", "asks_or_marks", "is_asks_or_marks", "put_at", "_law_dice", "_law_roll", "_law_pick", "_law_met", "_law_odd", "_law_numbers_right", "_law_reads_right", "_law_ends_right"]
def hnames : List Str := hnames_0 ++ hnames_1
def htf : List He.Defn := [("law", none), ("_law_numbers_right", none), ("_law_reads_right", none), ("_law_ends_right", none)]
/-! ### the class with __init__ -/
def clsBody : Stmt → List Stmt
  | .ClassDef _ _ _ b _ _ _ _ _ _ _ => b
  | _ => []
def initSt : Stmt := (clsBody (top 3)).getD 0 (.Pass ⟨0, 0, 0, 0⟩)
def inAt : Str × Option Str := ("InvalidNumber", some "__init__")
def inC (K : PySem.W.Frag) : Addr := He.ga K "InvalidNumber"
def inF (K : PySem.W.Frag) : Addr := He.fAd K inAt
def inFd (K : PySem.W.Frag) : FuncData := match K.lookup (inF K) with
  | some ⟨_, _, .func fd, _⟩ => fd
  | _ => default
def inCode (K : PySem.W.Frag) : Addr := match (inFd K).code with
  | .ref c => c
  | _ => 0
def inCell (K : PySem.W.Frag) : Addr := match (inFd K).closure with
  | [(_, c)] => c
  | _ => 0
abbrev FnC : Type := Str × Str × Arguments × FuncBody × Scope × Addr × List Str × Value × Addr
def inObs (K : PySem.W.Frag) : FnC := ((inFd K).name, (inFd K).qualname, (inFd K).params, (inFd K).body, (inFd K).scope, (inFd K).globals, (inFd K).closure.map (·.1), (inFd K).defaults, (inFd K).builtins)
def inVal : FnC := ("__init__", "InvalidNumber.__init__", defArgs initSt, .stmts (defBody initSt), defScope initSt, mainGlobals, ["__class__"], .none, builtinsNs)
def bmI : List Value := [.type "IndexError", .type "LookupError", .type "Exception", .type "BaseException", .type "object"]
def isFunB (K : PySem.W.Frag) (f : Addr) : Bool := match K.lookup f with
  | some ⟨_, _, .func _, _⟩ => true
  | _ => false
def exSup (K : PySem.W.Frag) : Bool :=
  PySem.W.excInitIn K (inC K) bmI "IndexError.__new__" && (PySem.W.excOver K (inC K) bmI && (He.eqO (PySem.W.findIn K (.ref (inC K)) "__init__") (some (some (.ref (inF K)))) && (decide (PySem.W.typeIn K (.ref (inF K)) = some (.type "function")) &&
  (He.eqO (PySem.W.findIn K (.ref (inC K)) "__setattr__") (some (some (.builtin "object.__setattr__"))) && (decide (PySem.W.takerIn K (inC K) "given" = some none) && (PySem.W.hasDictIn K (inC K) && (decide (PySem.W.subIn K (.ref (inC K)) (.type "IndexError") = some true) &&
  (decide (PySem.W.mroIn K (inC K) (.ref (inC K)) = some true) && (decide (PySem.W.ks_superIn K (inC K) (inC K) "__init__" = some (some (.builtin "IndexError.__init__"))) && decide (PySem.W.nsIn K cStatics "thirdparty.any" = some none))))))))))
def exRest (K : PySem.W.Frag) (file : Str) : Bool :=
  decide (PySem.W.subIn K (.ref (inC K)) (.type "BaseException") = some true) && (decide (PySem.W.typeIn K (.ref (inC K)) = some (.type "type")) && (PySem.W.keepIn K (.ref (inC K)) && (isFunB K (inF K) && (decide ((inFd K).code = .ref (inCode K)) && (PySem.W.codeIn K (.ref (inCode K)) "InvalidNumber.__init__" &&
  ((match K.lookup (inCode K) with
    | some ⟨_, _, .fields vs, _⟩ => (match (vs[2]? : Option Value) with
      | some (.str f _) => file == f
      | _ => false)
    | _ => false) && ((match K.lookup (inCell K) with
    | some ⟨_, _, .cell (some (.ref C)), _⟩ => C == inC K
    | _ => false) && (decide ((inFd K).closure = [(("__class__" : Str), inCell K)]) && (xfB K (inC K) && (isFunB K (He.ga K "asks_of") && (isFunB K (He.ga K "fewest_asks") && decide ((htf.map fun p => (He.cT K p).2).Nodup))))))))))))
abbrev R : PySem.W.OpenRow := PySem.W.OpenLaw.row PySem.Challenge.rw_wholemoment_k75_errors_of_counts
def exB (K : PySem.W.Frag) : Bool := exSup K && exRest K (R.prog.main.file : Str)
/-! ### the hook -/
def asY (g : Addr → Option Obj) : List Addr := cStatics :: He.asD g 6
abbrev AlY : Type := He.AlX × FnC
def obsY (g : Addr → Option Obj) : AlY := ((He.obsT hfa hfn [] (He.frT g (asY g)), exB (He.frT g (asY g)) && He.tabsB g htf (He.frT g (asY g))), inObs (He.frT g (asY g)))
def valY (w : World) : AlY := (He.valX hfn [] w, inVal)
structure SaysY (w : World) (h : Heap) (K : PySem.W.Frag) : Prop where
  d : He.SaysD hfa hfn K
  ex : exB K = true
  fn : inObs K = inVal
  hd : ∀ p ∈ htf, PySem.W.codeHdIn K (He.cT K p).1 (He.cT K p).2 = true
  out : ∀ p ∈ htf, K.lookup (He.cT K p).2 = none
  empty : ∀ p ∈ htf, h.get? (He.cT K p).2 = some { cls := .none, data := .fields #[] }
theorem saysY_of {w : World} {h : Heap} (e : obsY h.get? = valY w) : SaysY w h (He.frT h.get? (asY h.get?)) := by
  have e0 := congrArg (fun z : AlY => z.1) e
  have e1 : He.obsT hfa hfn [] (He.frT h.get? (asY h.get?)) = He.valT hfn [] w := congrArg (fun z : He.AlX => z.1) e0
  obtain ⟨h1, h2⟩ := He.ba (show (exB (He.frT h.get? (asY h.get?)) && He.tabsB h.get? htf (He.frT h.get? (asY h.get?))) = true from congrArg (fun z : He.AlX => z.2) e0)
  have key : ∀ p ∈ htf, PySem.W.codeHdIn (He.frT h.get? (asY h.get?)) (He.cT (He.frT h.get? (asY h.get?)) p).1 (He.cT (He.frT h.get? (asY h.get?)) p).2 = true ∧ ∃ o, h.get? (He.cT (He.frT h.get? (asY h.get?)) p).2 = some o ∧ He.emptyTab o = true := fun p hp => by
    obtain ⟨h3, h4⟩ := He.ba (List.all_eq_true.mp h2 p hp)
    refine ⟨h3, ?_⟩
    cases q : h.get? (He.cT (He.frT h.get? (asY h.get?)) p).2 with
    | none => rw [q] at h4; cases h4
    | some o => rw [q] at h4; exact ⟨o, rfl, h4⟩
  refine ⟨He.SaysT.d e1, h1, congrArg (fun z : AlY => z.2) e, fun p hp => (key p hp).1, fun p hp => ?_, fun p hp => ?_⟩
  · obtain ⟨_, o, q, z⟩ := key p hp
    exact He.frT_none q z
  · obtain ⟨_, o, q, z⟩ := key p hp
    rw [q, He.emptyTab_eq z]
def hk : PySem.W.Hook where
  α := AlY
  obs := fun s => obsY s.heap.get?
  val := fun w => valY w
  says := fun w h => ∃ K : PySem.W.Frag, K.In h ∧ SaysY w h K
  of := fun _ _ e => ⟨_, He.frT_in, saysY_of e⟩
  keeps := fun _ _ _ ⟨K, hK, c⟩ k => ⟨K, PySem.W.Frag.In.keeps hK k, ⟨c.d, c.ex, c.fn, c.hd, c.out, fun p hp => k _ _ (c.empty p hp)⟩⟩
def ob (s : PySem.W.SharedT) : AlY := obsY (HandSHeadRun.getT s)
theorem ob_eq (s : PySem.W.SharedT) : ob s = hk.obs s.abs := by
  have e : HandSHeadRun.getT s = s.abs.heap.get? := funext (HandSHeadRun.getT_eq s)
  unfold ob
  rw [e] <;> rfl
theorem run (w : World) : HandSHeadRun.RunEq R (PySem.W.view R.prog [61]) hk ob 4000 hnames w := by
  intro os
  kernel_rfl
end AF

set_option Elab.async false
set_option linter.all false
set_option maxRecDepth 100000
set_option maxHeartbeats 0
namespace AF
open PySem PySem.Spec PyProof.Rows L2 XE1
def ppOf : List Stmt → Nat → Pos
  | [.Expr (.Call (.Attribute (.Call (.Name _ p0) _ _ p1) _ p2) [.Name _ p3] _ p4) p5, .Assign [.Attribute (.Name _ p6) _ p7] (.Name _ p8) p9] => fun n => [p0, p1, p2, p3, p4, p5, p6, p7, p8, p9].getD n ⟨0, 0, 0, 0⟩
  | _ => fun _ => ⟨0, 0, 0, 0⟩
def pp0 : Nat → Pos := ppOf (defBody initSt)
theorem body_eq : defBody initSt = sBody "given" "self" "given" pp0 := by kernel_rfl
section
variable {w : World} {h : Heap} {K : PySem.W.Frag} {mg : Str → Option Value}
theorem isFunB_ok {f : Addr} (h : isFunB K f = true) : ∃ oc od fd osl, K.lookup f = some ⟨oc, od, .func fd, osl⟩ := by
  unfold isFunB at h
  split at h
  · rename_i oc od fd osl e
    exact ⟨_, _, _, _, e⟩
  · cases h
structure Rest (K : PySem.W.Frag) (file : Str) : Prop where
  sub : PySem.W.subIn K (.ref (inC K)) (.type "BaseException") = some true
  ty : PySem.W.typeIn K (.ref (inC K)) = some (.type "type")
  keep : PySem.W.keepIn K (.ref (inC K)) = true
  isf : isFunB K (inF K) = true
  code : (inFd K).code = .ref (inCode K)
  cin : PySem.W.codeIn K (.ref (inCode K)) "InvalidNumber.__init__" = true
  cdr : ∃ ccl cdd vs ccs f tf, K.lookup (inCode K) = some ⟨ccl, cdd, .fields vs, ccs⟩ ∧ vs[2]? = some (.str f tf) ∧ (file == f) = true
  cel : ∃ cl cld csl, K.lookup (inCell K) = some ⟨cl, cld, .cell (some (.ref (inC K))), csl⟩
  clo : (inFd K).closure = [(("__class__" : Str), inCell K)]
  xf : XfC K (inC K)
  fa : isFunB K (He.ga K "asks_of") = true
  fb : isFunB K (He.ga K "fewest_asks") = true
  nd : (htf.map fun p => (He.cT K p).2).Nodup
theorem rest_ok {file : Str} (h : exRest K file = true) : Rest K file := by
  unfold exRest at h
  obtain ⟨h1, h⟩ := He.ba h
  obtain ⟨h2, h⟩ := He.ba h
  obtain ⟨h3, h⟩ := He.ba h
  obtain ⟨h4, h⟩ := He.ba h
  obtain ⟨h5, h⟩ := He.ba h
  obtain ⟨h6, h⟩ := He.ba h
  obtain ⟨h7, h⟩ := He.ba h
  obtain ⟨h8, h⟩ := He.ba h
  obtain ⟨h9, h⟩ := He.ba h
  obtain ⟨h10, h⟩ := He.ba h
  obtain ⟨h11, h⟩ := He.ba h
  obtain ⟨h12, h⟩ := He.ba h
  refine ⟨of_decide_eq_true h1, of_decide_eq_true h2, h3, h4, of_decide_eq_true h5, h6, ?_, ?_, of_decide_eq_true h9, xfB_ok h10, h11, h12, of_decide_eq_true h⟩
  · split at h7
    · rename_i ccl cdd vs ccs e
      split at h7
      · rename_i f tf e2
        exact ⟨_, _, _, _, _, _, e, e2, h7⟩
      · cases h7
    · cases h7
  · split at h8
    · rename_i cl cld C csl e
      have eC : C = inC K := beq_iff_eq.mp h8
      rw [eC] at e
      exact ⟨_, _, _, e⟩
    · cases h8
theorem sup_ok {f : Str} (hf : f = "given") (h : exSup K = true) : SupC K (inC K) (inF K) "IndexError" "IndexError.__init__" "IndexError.__new__" bmI f := by
  subst hf
  unfold exSup at h
  obtain ⟨h1, h⟩ := He.ba h
  obtain ⟨h2, h⟩ := He.ba h
  obtain ⟨h3, h⟩ := He.ba h
  obtain ⟨h4, h⟩ := He.ba h
  obtain ⟨h5, h⟩ := He.ba h
  obtain ⟨h6, h⟩ := He.ba h
  obtain ⟨h7, h⟩ := He.ba h
  obtain ⟨h8, h⟩ := He.ba h
  obtain ⟨h9, h⟩ := He.ba h
  obtain ⟨h10, h11⟩ := He.ba h
  exact ⟨h1, h2, He.eqO_ok h3, of_decide_eq_true h4, He.eqO_ok h5, of_decide_eq_true h6, h7, of_decide_eq_true h8, of_decide_eq_true h9, of_decide_eq_true h10, of_decide_eq_true h11⟩
theorem in_fd (hv : inObs K = inVal) (r : Rest K (R.prog.main.file : Str)) : ∃ oc od osl kV doc pm an ct, K.lookup (inF K) = some ⟨oc, od, .func (inFd K), osl⟩ ∧ inFd K = PySem.W.ksFn "__init__" "InvalidNumber.__init__" (defArgs initSt) (sBody "given" "self" "given" pp0) (defScope initSt) .none kV doc pm an (.ref (inCode K)) ct (inCell K) := by
  obtain ⟨oc, od, fd, osl, e⟩ := isFunB_ok r.isf
  have ef : inFd K = fd := by
    unfold inFd
    rw [e]
  have h1 := r.code
  have h2 := r.clo
  unfold inObs inVal at hv
  generalize inCode K = cda at *
  generalize inCell K = cc at *
  rw [ef] at hv h1 h2 ⊢
  obtain ⟨n1, n2, n3, n4, n5, n6, n7, n8, n9, n10, n11, n12, n13, n14, n15⟩ := fd
  simp only [Prod.mk.injEq] at hv
  obtain ⟨a1, a2, a3, a4, a5, a6, _, a8, a9⟩ := hv
  have h1 : n13 = .ref cda := h1
  have h2 : n7 = [(("__class__" : Str), cc)] := h2
  have a1 : n1 = "__init__" := a1
  have a2 : n2 = "InvalidNumber.__init__" := a2
  subst h1 h2 a1 a2 a3 a4 a5 a6 a8 a9
  exact ⟨oc, od, osl, n9, n10, n11, n12, n14, e, by rw [body_eq]⟩
theorem supN (X : K.In h) (G : h.Ns mainGlobals mg) (c : SaysY w h K) (hm : mg "InvalidNumber" = some (.ref (inC K))) : SupN R.prog K mg "InvalidNumber" "given" := by
  obtain ⟨e1, e2⟩ := He.ba c.ex
  have r := rest_ok e2
  obtain ⟨oc, od, osl, kV, doc, pm, an, ct, lk, efd⟩ := in_fd c.fn r
  refine ⟨inC K, inF K, "IndexError", "IndexError.__init__", "IndexError.__new__", bmI, "InvalidNumber.__init__", defArgs initSt, defScope initSt, "self", "given", pp0, inFd K, inCell K, inCode K, sup_ok rfl e1, ?_, PySem.F.excBase_IndexError, PySem.W.kxs_IndexError, PySem.F.store_IndexError, hm, r.sub, r.ty, r.keep⟩
  exact {
    lk := ⟨oc, od, osl, lk⟩
    fde := ⟨.none, kV, doc, pm, an, ct, efd⟩
    cdI := r.cin
    cdr := r.cdr
    cel := r.cel
    bnd := fun s a u => by
      rw [efd]
      exact .of_eq rfl
    kind := by decide +kernel
    co := by decide +kernel
    gen := by decide +kernel
    cells := by decide +kernel
    sS := by decide +kernel
    sC := by decide +kernel
    s0 := by decide +kernel
    s1 := by decide +kernel
    hd := ⟨_, rfl, rfl⟩
    ne := by decide
    dS := by decide
    dA := by decide
    itv := fun L => by
      rw [efd]
      rfl
    ev := fun L => by
      rw [efd]
      exact ⟨_, rfl⟩
    top := by decide +kernel }

theorem tx (X : K.In h) (G : h.Ns mainGlobals mg) (c : SaysY w h K) : Tx R.prog K mg where
  b_isinstance := He.free_ok X G (c.d.fact 38 (f := .free "isinstance") rfl)
  b_int := He.free_ok X G (c.d.fact 39 (f := .free "int") rfl)
  b_bool := He.free_ok X G (c.d.fact 40 (f := .free "bool") rfl)
  b_str := He.free_ok X G (c.d.fact 41 (f := .free "str") rfl)
  b_tuple := He.free_ok X G (c.d.fact 42 (f := .free "tuple") rfl)
  b_list := He.free_ok X G (c.d.fact 43 (f := .free "list") rfl)
  b_len := He.free_ok X G (c.d.fact 44 (f := .free "len") rfl)
  b_all := He.free_ok X G (c.d.fact 45 (f := .free "all") rfl)
  b_any := He.free_ok X G (c.d.fact 46 (f := .free "any") rfl)
  b_zip := He.free_ok X G (c.d.fact 47 (f := .free "zip") rfl)
  b_sorted := He.free_ok X G (c.d.fact 48 (f := .free "sorted") rfl)
  b_range := He.free_ok X G (c.d.fact 49 (f := .free "range") rfl)
  b_max := He.free_ok X G (c.d.fact 50 (f := .free "max") rfl)
  b_min := He.free_ok X G (c.d.fact 51 (f := .free "min") rfl)
  b_abs := He.free_ok X G (c.d.fact 52 (f := .free "abs") rfl)
  b_repr := He.free_ok X G (c.d.fact 53 (f := .free "repr") rfl)
  b_super := He.free_ok X G (c.d.fact 54 (f := .free "super") rfl)
  c_GREATEST := He.int_ok X G (c.d.fact 55 (f := .int "GREATEST" 1000000000000000000000000000000000000000000000000000000000000) rfl)
  c_MOST_KEY := He.int_ok X G (c.d.fact 56 (f := .int "MOST_KEY" 8) rfl)
  c_LETTERS := He.str_ok X G (c.d.fact 57 (f := .str "LETTERS" "abcdefghijklmnopqrstuvwxyz") rfl)
  c_MAX_SPREAD := He.int_ok X G (c.d.fact 58 (f := .int "MAX_SPREAD" 6) rfl)
  c_MAX_DEPTH := He.int_ok X G (c.d.fact 59 (f := .int "MAX_DEPTH" 6) rfl)
  c_MAX_READS := He.int_ok X G (c.d.fact 60 (f := .int "MAX_READS" 60) rfl)
  c_MAX_HELD := He.int_ok X G (c.d.fact 61 (f := .int "MAX_HELD" 200) rfl)
  c_MAX_TERM := He.int_ok X G (c.d.fact 62 (f := .int "MAX_TERM" 200) rfl)
  c_MAX_ASKED := He.int_ok X G (c.d.fact 63 (f := .int "MAX_ASKED" 400) rfl)
  c_MAX_KEYS := He.int_ok X G (c.d.fact 64 (f := .int "MAX_KEYS" 6) rfl)
  c_MAX_ENDS := He.int_ok X G (c.d.fact 65 (f := .int "MAX_ENDS" 240) rfl)
  c_PAIR := He.int_ok X G (c.d.fact 66 (f := .int "PAIR" 2) rfl)
  c_ASKS := He.str_ok X G (c.d.fact 67 (f := .str "ASKS" "asks") rfl)
  c_MARKS := He.str_ok X G (c.d.fact 68 (f := .str "MARKS" "marks") rfl)
  d_is_whole := by
    obtain ⟨fd, F⟩ := c.d.def_ 0 (d := dd_is_whole) rfl
    exact ⟨_, fd, He.glo_ok X G (c.d.fact 0 (f := .glo "is_whole") rfl), F⟩
  d_is_short := by
    obtain ⟨fd, F⟩ := c.d.def_ 1 (d := dd_is_short) rfl
    exact ⟨_, fd, He.glo_ok X G (c.d.fact 1 (f := .glo "is_short") rfl), F⟩
  d_is_from := by
    obtain ⟨fd, F⟩ := c.d.def_ 2 (d := dd_is_from) rfl
    exact ⟨_, fd, He.glo_ok X G (c.d.fact 2 (f := .glo "is_from") rfl), F⟩
  d_is_tick := by
    obtain ⟨fd, F⟩ := c.d.def_ 3 (d := dd_is_tick) rfl
    exact ⟨_, fd, He.glo_ok X G (c.d.fact 3 (f := .glo "is_tick") rfl), F⟩
  d_is_key := by
    obtain ⟨fd, F⟩ := c.d.def_ 4 (d := dd_is_key) rfl
    exact ⟨_, fd, He.glo_ok X G (c.d.fact 4 (f := .glo "is_key") rfl), F⟩
  d_are_keys := by
    obtain ⟨fd, F⟩ := c.d.def_ 5 (d := dd_are_keys) rfl
    exact ⟨_, fd, He.glo_ok X G (c.d.fact 5 (f := .glo "are_keys") rfl), F⟩
  d_is_read := by
    obtain ⟨fd, F⟩ := c.d.def_ 6 (d := dd_is_read) rfl
    exact ⟨_, fd, He.glo_ok X G (c.d.fact 6 (f := .glo "is_read") rfl), F⟩
  d_are_reads := by
    obtain ⟨fd, F⟩ := c.d.def_ 7 (d := dd_are_reads) rfl
    exact ⟨_, fd, He.glo_ok X G (c.d.fact 7 (f := .glo "are_reads") rfl), F⟩
  d_is_mark := by
    obtain ⟨fd, F⟩ := c.d.def_ 8 (d := dd_is_mark) rfl
    exact ⟨_, fd, He.glo_ok X G (c.d.fact 8 (f := .glo "is_mark") rfl), F⟩
  d_are_marks_of := by
    obtain ⟨fd, F⟩ := c.d.def_ 9 (d := dd_are_marks_of) rfl
    exact ⟨_, fd, He.glo_ok X G (c.d.fact 9 (f := .glo "are_marks_of") rfl), F⟩
  d_asks_in := by
    obtain ⟨fd, F⟩ := c.d.def_ 10 (d := dd_asks_in) rfl
    exact ⟨_, fd, He.glo_ok X G (c.d.fact 10 (f := .glo "asks_in") rfl), F⟩
  d_do_cover_in := by
    obtain ⟨fd, F⟩ := c.d.def_ 11 (d := dd_do_cover_in) rfl
    exact ⟨_, fd, He.glo_ok X G (c.d.fact 11 (f := .glo "do_cover_in") rfl), F⟩
  d_are_apart_in := by
    obtain ⟨fd, F⟩ := c.d.def_ 12 (d := dd_are_apart_in) rfl
    exact ⟨_, fd, He.glo_ok X G (c.d.fact 12 (f := .glo "are_apart_in") rfl), F⟩
  d_marks_in := by
    obtain ⟨fd, F⟩ := c.d.def_ 13 (d := dd_marks_in) rfl
    exact ⟨_, fd, He.glo_ok X G (c.d.fact 13 (f := .glo "marks_in") rfl), F⟩
  d_require_from := by
    obtain ⟨fd, F⟩ := c.d.def_ 14 (d := dd_require_from) rfl
    exact ⟨_, fd, He.glo_ok X G (c.d.fact 14 (f := .glo "require_from") rfl), F⟩
  d_require_tick := by
    obtain ⟨fd, F⟩ := c.d.def_ 15 (d := dd_require_tick) rfl
    exact ⟨_, fd, He.glo_ok X G (c.d.fact 15 (f := .glo "require_tick") rfl), F⟩
  d_require_spread := by
    obtain ⟨fd, F⟩ := c.d.def_ 16 (d := dd_require_spread) rfl
    exact ⟨_, fd, He.glo_ok X G (c.d.fact 16 (f := .glo "require_spread") rfl), F⟩
  d_require_reads := by
    obtain ⟨fd, F⟩ := c.d.def_ 17 (d := dd_require_reads) rfl
    exact ⟨_, fd, He.glo_ok X G (c.d.fact 17 (f := .glo "require_reads") rfl), F⟩
  d_require_number := by
    obtain ⟨fd, F⟩ := c.d.def_ 18 (d := dd_require_number) rfl
    exact ⟨_, fd, He.glo_ok X G (c.d.fact 18 (f := .glo "require_number") rfl), F⟩
  d_held_at := by
    obtain ⟨fd, F⟩ := c.d.def_ 19 (d := dd_held_at) rfl
    exact ⟨_, fd, He.glo_ok X G (c.d.fact 19 (f := .glo "held_at") rfl), F⟩
  d_greatest_depth := by
    obtain ⟨fd, F⟩ := c.d.def_ 20 (d := dd_greatest_depth) rfl
    exact ⟨_, fd, He.glo_ok X G (c.d.fact 20 (f := .glo "greatest_depth") rfl), F⟩
  d_least_term := by
    obtain ⟨fd, F⟩ := c.d.def_ 21 (d := dd_least_term) rfl
    exact ⟨_, fd, He.glo_ok X G (c.d.fact 21 (f := .glo "least_term") rfl), F⟩
  d_asks_of := by
    obtain ⟨fd, F⟩ := c.d.def_ 22 (d := dd_asks_of) rfl
    exact ⟨_, fd, He.glo_ok X G (c.d.fact 22 (f := .glo "asks_of") rfl), F⟩
  d_fewest_asks := by
    obtain ⟨fd, F⟩ := c.d.def_ 23 (d := dd_fewest_asks) rfl
    exact ⟨_, fd, He.glo_ok X G (c.d.fact 23 (f := .glo "fewest_asks") rfl), F⟩
  d_do_cover := by
    obtain ⟨fd, F⟩ := c.d.def_ 24 (d := dd_do_cover) rfl
    exact ⟨_, fd, He.glo_ok X G (c.d.fact 24 (f := .glo "do_cover") rfl), F⟩
  d_are_apart := by
    obtain ⟨fd, F⟩ := c.d.def_ 25 (d := dd_are_apart) rfl
    exact ⟨_, fd, He.glo_ok X G (c.d.fact 25 (f := .glo "are_apart") rfl), F⟩
  d_asks_or_marks := by
    obtain ⟨fd, F⟩ := c.d.def_ 26 (d := dd_asks_or_marks) rfl
    exact ⟨_, fd, He.glo_ok X G (c.d.fact 26 (f := .glo "asks_or_marks") rfl), F⟩
  d_is_asks_or_marks := by
    obtain ⟨fd, F⟩ := c.d.def_ 27 (d := dd_is_asks_or_marks) rfl
    exact ⟨_, fd, He.glo_ok X G (c.d.fact 27 (f := .glo "is_asks_or_marks") rfl), F⟩
  d_put_at := by
    obtain ⟨fd, F⟩ := c.d.def_ 28 (d := dd_put_at) rfl
    exact ⟨_, fd, He.glo_ok X G (c.d.fact 28 (f := .glo "put_at") rfl), F⟩
  d__law_dice := by
    obtain ⟨fd, F⟩ := c.d.def_ 29 (d := dd__law_dice) rfl
    exact ⟨_, fd, He.glo_ok X G (c.d.fact 29 (f := .glo "_law_dice") rfl), F⟩
  d__law_roll := by
    obtain ⟨fd, F⟩ := c.d.def_ 30 (d := dd__law_roll) rfl
    exact ⟨_, fd, He.glo_ok X G (c.d.fact 30 (f := .glo "_law_roll") rfl), F⟩
  d__law_pick := by
    obtain ⟨fd, F⟩ := c.d.def_ 31 (d := dd__law_pick) rfl
    exact ⟨_, fd, He.glo_ok X G (c.d.fact 31 (f := .glo "_law_pick") rfl), F⟩
  d__law_odd := by
    obtain ⟨fd, F⟩ := c.d.def_ 32 (d := dd__law_odd) rfl
    exact ⟨_, fd, He.glo_ok X G (c.d.fact 32 (f := .glo "_law_odd") rfl), F⟩
  d__law_met := by
    obtain ⟨fd, F⟩ := c.d.def_ 33 (d := dd__law_met) rfl
    exact ⟨_, fd, He.glo_ok X G (c.d.fact 33 (f := .glo "_law_met") rfl), F⟩
  d__law_numbers_right := by
    obtain ⟨fd, F⟩ := c.d.def_ 34 (d := dd__law_numbers_right) rfl
    exact ⟨_, fd, He.glo_ok X G (c.d.fact 34 (f := .glo "_law_numbers_right") rfl), F⟩
  d__law_reads_right := by
    obtain ⟨fd, F⟩ := c.d.def_ 35 (d := dd__law_reads_right) rfl
    exact ⟨_, fd, He.glo_ok X G (c.d.fact 35 (f := .glo "_law_reads_right") rfl), F⟩
  d__law_ends_right := by
    obtain ⟨fd, F⟩ := c.d.def_ 36 (d := dd__law_ends_right) rfl
    exact ⟨_, fd, He.glo_ok X G (c.d.fact 36 (f := .glo "_law_ends_right") rfl), F⟩
  d_law := by
    obtain ⟨fd, F⟩ := c.d.def_ 37 (d := dd_law) rfl
    exact ⟨_, fd, He.glo_ok X G (c.d.fact 37 (f := .glo "law") rfl), F⟩
  x_InvalidNumber := supN X G c (He.glo_ok X G (c.d.fact 69 (f := .glo "InvalidNumber") rfl))
  x_InvalidOperation := by
    obtain ⟨h1, h2, h3, h4⟩ := He.exc_ok (c.d.fact 71 (f := .exc "InvalidOperation") rfl)
    exact ⟨_, He.glo_ok X G (c.d.fact 70 (f := .glo "InvalidOperation") rfl), h1, h2, h3, h4⟩
  met := ⟨_, _, He.glo_ok X G (c.d.fact 69 (f := .glo "InvalidNumber") rfl), He.glo_ok X G (c.d.fact 70 (f := .glo "InvalidOperation") rfl), (rest_ok (He.ba c.ex).2).xf, He.noat_ok (c.d.fact 72 (f := .noat "InvalidNumber" "given") rfl), He.exm_ok (c.d.fact 73 (f := .exm "InvalidNumber" "InvalidNumber" true) rfl), He.exm_ok (c.d.fact 74 (f := .exm "InvalidOperation" "InvalidNumber" false) rfl), He.exm_ok (c.d.fact 75 (f := .exm "InvalidOperation" "InvalidOperation" true) rfl)⟩
end
section
variable {P : Program} {w : World} {K : PySem.W.Frag} {mg : Str → Option Value} {base : Heap}
theorem tb_of {x : Str} {st : Stmt} (hm : mg x = some (.ref (He.ga K x))) (tb : LamX.TabB base mg (He.cT K (x, none)).1 (He.cT K (x, none)).2) : ∀ f fd, mg x = some (.ref f) → FnP K x st f fd → ∃ c, fd.code = .ref c ∧ LamX.TabB base mg c (He.cT K (x, none)).2 := by
  intro f fd h Fd
  rw [hm] at h
  cases h
  obtain ⟨oc, od, dV, kV, doc, pm, an, cdv, ct, osl, rfl, lk, hcd, _, _⟩ := Fd.ex
  obtain ⟨c, rfl⟩ := He.codeIn_ref hcd
  have e : He.codeOf K (x, none) = c := He.codeOf_eq (p := (x, none)) lk rfl
  exact ⟨c, rfl, e ▸ tb⟩
theorem chain (T : Tx P K mg) {fa fb P0 P1 P2 P3 : Addr} (nd : ((T_law P0 P1 P2 P3).map (·.1)).Nodup) (ha : mg "asks_of" = some (.ref fa)) (hb : mg "fewest_asks" = some (.ref fb)) (ka : ∃ oc od fd osl, K.lookup fa = some ⟨oc, od, .func fd, osl⟩) (kb : ∃ oc od fd osl, K.lookup fb = some ⟨oc, od, .func fd, osl⟩)
    (tb_law : ∀ f fd, mg "law" = some (.ref f) → FnP K "law" s_law f fd → ∃ c, fd.code = .ref c ∧ LamX.TabB base mg c P0)
    (tb__law_numbers_right : ∀ f fd, mg "_law_numbers_right" = some (.ref f) → FnP K "_law_numbers_right" s__law_numbers_right f fd → ∃ c, fd.code = .ref c ∧ LamX.TabB base mg c P1)
    (tb__law_reads_right : ∀ f fd, mg "_law_reads_right" = some (.ref f) → FnP K "_law_reads_right" s__law_reads_right f fd → ∃ c, fd.code = .ref c ∧ LamX.TabB base mg c P2)
    (tb__law_ends_right : ∀ f fd, mg "_law_ends_right" = some (.ref f) → FnP K "_law_ends_right" s__law_ends_right f fd → ∃ c, fd.code = .ref c ∧ LamX.TabB base mg c P3)
    : HasG P w K mg base "law" 34 ["_law_script"] (spT0 K 1 (T_law P0 P1 P2 P3) (P_law fa fb P0 P1 P2 P3)) := by
  have M := met_f T
  have H_is_whole : ∀ base : Heap, Has P w K mg base "is_whole" 1 ["value"] (spD K 1 P_is_whole) := fun base => has_is_whole (base := base) T 
  have H_is_short : ∀ base : Heap, Has P w K mg base "is_short" 2 ["value"] (spD K 1 P_is_short) := fun base => has_is_short (base := base) T (H_is_whole base)
  have H_is_from : ∀ base : Heap, Has P w K mg base "is_from" 2 ["value", "least", "most"] (spD K 3 P_is_from) := fun base => has_is_from (base := base) T (H_is_whole base)
  have H_is_tick : ∀ base : Heap, Has P w K mg base "is_tick" 3 ["value"] (spD K 1 P_is_tick) := fun base => has_is_tick (base := base) T (H_is_short base)
  have H_is_key : ∀ base : Heap, Has P w K mg base "is_key" 1 ["value"] (spD K 1 P_is_key) := fun base => has_is_key (base := base) T 
  have H_are_keys : ∀ base : Heap, Has P w K mg base "are_keys" 2 ["value"] (spD K 1 P_are_keys) := fun base => has_are_keys (base := base) T (H_is_key base)
  have H_is_read : ∀ base : Heap, Has P w K mg base "is_read" 4 ["value"] (spD K 1 P_is_read) := fun base => has_is_read (base := base) T (H_are_keys base) (H_is_tick base)
  have H_are_reads : ∀ base : Heap, Has P w K mg base "are_reads" 5 ["value"] (spD K 1 P_are_reads) := fun base => has_are_reads (base := base) T (H_is_read base)
  have H_is_mark : ∀ base : Heap, Has P w K mg base "is_mark" 4 ["value"] (spD K 1 P_is_mark) := fun base => has_is_mark (base := base) T (H_is_key base) (H_is_tick base)
  have H_marks_in : ∀ base : Heap, Has P w K mg base "marks_in" 1 ["reads"] (spT K 1 P_marks_in) := fun base => has_marks_in (base := base) T 
  have H_are_marks_of : ∀ base : Heap, Has P w K mg base "are_marks_of" 5 ["reads", "value"] (spD K 2 P_are_marks_of) := fun base => has_are_marks_of (base := base) T (H_is_mark base) (H_marks_in base)
  have H_asks_in : ∀ base : Heap, Has P w K mg base "asks_in" 1 ["held", "reads"] (spD K 2 P_asks_in) := fun base => has_asks_in (base := base) T 
  have H_do_cover_in : ∀ base : Heap, Has P w K mg base "do_cover_in" 1 ["held", "reads", "asks"] (spD K 3 P_do_cover_in) := fun base => has_do_cover_in (base := base) T 
  have H_are_apart_in : ∀ base : Heap, Has P w K mg base "are_apart_in" 1 ["held", "marks"] (spD K 2 P_are_apart_in) := fun base => has_are_apart_in (base := base) T 
  have H_require_from : ∀ base : Heap, HasX P w K mg base "require_from" 3 ["value", "least", "most"] (spX K mg 3 P_require_from) := fun base => has_require_from (base := base) T (H_is_from base)
  have H_require_tick : ∀ base : Heap, HasX P w K mg base "require_tick" 4 ["value"] (spX K mg 1 P_require_tick) := fun base => has_require_tick (base := base) T (H_is_tick base)
  have H_require_spread : ∀ base : Heap, HasX P w K mg base "require_spread" 4 ["spread"] (spX K mg 1 P_require_spread) := fun base => has_require_spread (base := base) T (H_require_from base)
  have H_require_reads : ∀ base : Heap, HasX P w K mg base "require_reads" 6 ["held", "reads"] (spX K mg 2 P_require_reads) := fun base => has_require_reads (base := base) T (H_are_reads base) (H_require_from base)
  have H_require_number : ∀ base : Heap, HasX P w K mg base "require_number" 7 ["held", "reads", "number"] (spX K mg 3 P_require_number) := fun base => has_require_number (base := base) T (H_require_from base) (H_require_reads base)
  have H_held_at : ∀ base : Heap, HasX P w K mg base "held_at" 5 ["spread", "term", "depth"] (spX K mg 3 P_held_at) := fun base => has_held_at (base := base) T (H_require_from base) (H_require_spread base)
  have H_greatest_depth : ∀ base : Heap, HasX P w K mg base "greatest_depth" 5 ["spread", "term"] (spX K mg 2 P_greatest_depth) := fun base => has_greatest_depth (base := base) T (H_require_from base) (H_require_spread base)
  have H_least_term : ∀ base : Heap, HasX P w K mg base "least_term" 5 ["spread", "depth", "units"] (spX K mg 3 P_least_term) := fun base => has_least_term (base := base) T (H_require_from base) (H_require_spread base)
  have H_asks_of : ∀ base : Heap, HasX P w K mg base "asks_of" 7 ["held", "reads"] (spX K mg 2 P_asks_of) := fun base => has_asks_of (base := base) T (H_asks_in base) (H_require_reads base)
  have H_fewest_asks : ∀ base : Heap, HasX P w K mg base "fewest_asks" 7 ["held", "reads"] (spX K mg 2 P_fewest_asks) := fun base => has_fewest_asks (base := base) T (H_asks_in base) (H_require_reads base)
  have H_do_cover : ∀ base : Heap, HasX P w K mg base "do_cover" 7 ["held", "reads", "value"] (spX K mg 3 P_do_cover) := fun base => has_do_cover (base := base) T (H_are_marks_of base) (H_do_cover_in base) (H_require_reads base)
  have H_are_apart : ∀ base : Heap, HasX P w K mg base "are_apart" 7 ["held", "reads", "value"] (spX K mg 3 P_are_apart) := fun base => has_are_apart (base := base) T (H_are_apart_in base) (H_are_marks_of base) (H_require_reads base)
  have H_asks_or_marks : ∀ base : Heap, HasX P w K mg base "asks_or_marks" 8 ["held", "reads", "number"] (spX K mg 3 P_asks_or_marks) := fun base => has_asks_or_marks (base := base) T (H_asks_in base) (H_require_number base)
  have H_is_asks_or_marks : ∀ base : Heap, HasX P w K mg base "is_asks_or_marks" 8 ["held", "reads", "number", "value"] (spX K mg 4 P_is_asks_or_marks) := fun base => has_is_asks_or_marks (base := base) T (H_are_apart_in base) (H_are_marks_of base) (H_do_cover_in base) (H_require_number base)
  have H_put_at : ∀ base : Heap, HasX P w K mg base "put_at" 5 ["ends", "reading", "ceiling"] (spX K mg 3 P_put_at) := fun base => has_put_at (base := base) T (H_is_tick base) (H_require_tick base)
  have H__law_dice : ∀ base : Heap, Has P w K mg base "_law_dice" 1 ["_law_script", "_law_spot"] (spL K 2 P__law_dice) := fun base => has__law_dice (base := base) T 
  have H__law_roll : ∀ base : Heap, Has P w K mg base "_law_roll" 1 ["_law_dice_here", "_law_most"] (spO K 2 P__law_roll) := fun base => has__law_roll (base := base) T 
  have H__law_pick : ∀ base : Heap, Has P w K mg base "_law_pick" 2 ["_law_dice_here", "_law_items"] (spO K 2 P__law_pick) := fun base => has__law_pick (base := base) T (H__law_roll base)
  have H__law_odd : ∀ base : Heap, Has P w K mg base "_law_odd" 3 ["_law_dice_here", "_law_least", "_law_most"] (spO K 3 P__law_odd) := fun base => has__law_odd (base := base) T (H__law_pick base)
  have H__law_numbers_right := has__law_numbers_right (P := P) (w := w) (base := base) T M tb__law_numbers_right (H__law_odd base) H_greatest_depth H_held_at H_least_term
  have H__law_reads_right := has__law_reads_right (P := P) (w := w) (base := base) T M tb__law_reads_right (H__law_odd base) (H__law_pick base) H_are_apart H_asks_of H_asks_or_marks H_do_cover H_fewest_asks H_is_asks_or_marks ha hb ka kb
  have H__law_ends_right := has__law_ends_right (P := P) (w := w) (base := base) T M tb__law_ends_right (H__law_pick base) H_put_at
  exact has_law (fa := fa) (fb := fb) T M nd tb_law (H__law_dice base) H_asks_or_marks H__law_numbers_right H__law_reads_right H__law_ends_right
end
end AF
open PySem PySem.W PySem.Calls PyProof.Rows
theorem PySem.Challenge.cw_wholemoment_k75_errors_of_counts_holds : PySem.Challenge.rw_wholemoment_k75_errors_of_counts.Holds := by
  w_on; o_law
  refine HandSHeadRun.head_any (r := OpenLaw.row PySem.Challenge.rw_wholemoment_k75_errors_of_counts) (q := view (OpenLaw.row PySem.Challenge.rw_wholemoment_k75_errors_of_counts).prog [61]) (H := AF.hk) (ob := AF.ob) (M := 4000) (loose := AF.hnames) (d := HandSHeadRun.topDef (OpenLaw.row PySem.Challenge.rw_wholemoment_k75_errors_of_counts).prog 61) (kwd := []) AF.ob_eq
    (by kernel_rfl) (fun s => by kernel_rfl) AF.run (by kernel_rfl) (by kernel_rfl) (by kernel_rfl) (by rfl) (by first | assumption | decide +kernel) (by decide +kernel) ⟨rfl, rfl, rfl, rfl, rfl, by decide +kernel⟩ ?hw ?hc
  case hw => w_witness2
  case hc =>
    refine AF.walk_ofG (l := PySem.Challenge.rw_wholemoment_k75_errors_of_counts) (n := 63) (k := 34) (x := "law") (ps := ["_law_script"]) rfl (by decide) (by kernel_rfl) ⟨rfl, by decide, by decide⟩ rfl (by kernel_rfl) ?F
    intro w mg fa h Y G hmg
    obtain ⟨K, KX, c⟩ := Y
    have r := AF.rest_ok (He.ba c.ex).2
    have T := AF.tx KX G c
    have glo : ∀ x ∈ [("law" : PySem.Str), "_law_numbers_right", "_law_reads_right", "_law_ends_right"], mg x = some (.ref (He.ga K x)) := by
      intro x hx
      simp only [List.mem_cons, List.not_mem_nil, or_false] at hx
      rcases hx with rfl | rfl | rfl | rfl
      · exact He.glo_ok KX G (c.d.fact 37 (f := .glo "law") rfl)
      · exact He.glo_ok KX G (c.d.fact 34 (f := .glo "_law_numbers_right") rfl)
      · exact He.glo_ok KX G (c.d.fact 35 (f := .glo "_law_reads_right") rfl)
      · exact He.glo_ok KX G (c.d.fact 36 (f := .glo "_law_ends_right") rfl)
    refine ⟨K, AF.htf.map (He.cT K), AF.T_law (He.cT K ("law", none)).2 (He.cT K ("_law_numbers_right", none)).2 (He.cT K ("_law_reads_right", none)).2 (He.cT K ("_law_ends_right", none)).2, AF.P_law (He.ga K "asks_of") (He.ga K "fewest_asks") (He.cT K ("law", none)).2 (He.cT K ("_law_numbers_right", none)).2 (He.cT K ("_law_reads_right", none)).2 (He.cT K ("_law_ends_right", none)).2, KX, ?_, ?_, ?_, ?_, fun ns hl => AF.p_law hl rfl, fun base hK hG hTB => ?_⟩
    · intro p hp
      obtain ⟨q, hq, rfl⟩ := List.mem_map.mp hp
      exact c.empty q hq
    · intro p hp
      obtain ⟨q, hq, rfl⟩ := List.mem_map.mp hp
      exact c.out q hq
    · intro p hp
      obtain ⟨q, hq, rfl⟩ := List.mem_map.mp hp
      exact PySem.W.codeHd_of_K KX (c.hd q hq)
    · intro t ht
      simp only [AF.T_law, List.mem_cons, List.not_mem_nil, or_false] at ht
      rcases ht with rfl | rfl | rfl | rfl <;> simp [AF.htf]
    · have tbm : ∀ p ∈ AF.htf, LamX.TabB base mg (He.cT K p).1 (He.cT K p).2 := fun p hp => hTB _ (List.mem_map.mpr ⟨p, hp, rfl⟩)
      exact AF.chain T r.nd (He.glo_ok KX G (c.d.fact 22 (f := .glo "asks_of") rfl)) (He.glo_ok KX G (c.d.fact 23 (f := .glo "fewest_asks") rfl)) (AF.isFunB_ok r.fa) (AF.isFunB_ok r.fb)
        (AF.tb_of (glo _ (by simp)) (tbm _ (by simp [AF.htf]))) (AF.tb_of (glo _ (by simp)) (tbm _ (by simp [AF.htf]))) (AF.tb_of (glo _ (by simp)) (tbm _ (by simp [AF.htf]))) (AF.tb_of (glo _ (by simp)) (tbm _ (by simp [AF.htf])))

