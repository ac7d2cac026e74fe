import PyProof.Rows.All
import Wide.All
import OpenK.AllK
import Wide.FinOn
import HandS.ForMost
import HandS.Walk
import HandS.TupAny
import HandS.IsInst
import HandS.RaiseMore
import HandS.Strs
import HandS.Zip
import HandS.Star
import KE.GoesEnum
import HandS.Dict
import HandS.DictComp
import KE.KDictPairs
import PyProof.DictUpdate
import KE.SortData
import HandS.Set
import HandS.SetFor
import HandS.SetTxt0
import HandS.ListItems
import KE.KItemsList
import HandS.DictEq
import HandS.DeepEq
import HandS.TryOnly
import HandS.Flow
import HandS.ExcIs
import HandS.ExcValue
import HandS.ForExc
import HandS.ExcBuiltin
import PySem.Challenge.RW_ownlists_k83_whole_nearest_lists_and_unl
set_option Elab.async false
set_option linter.all false
set_option maxRecDepth 100000
section
set_option maxHeartbeats 2000000
/-! OdBase: the data layer. Values as data trees in a region of the abstract heap; readings made of plain functions over data environments. -/
namespace Od
open PySem PySem.Spec PyProof.Rows L2

/-! ### data in a region: every tuple is held with its object, which has no dict -/
def TupF (G : Hp) (a : Addr) (xs : List V) : Prop := ∃ o : Obj, o.dict = none ∧ G a = some (.frz o (.tup xs))
theorem TupF.mono {G G' : Hp} {a : Addr} {xs : List V} (e : Same G G') (h : TupF G a xs) : TupF G' a xs := let ⟨o, h1, h2⟩ := h; ⟨o, h1, e _ _ h2⟩
theorem TupF.sq {K : PySem.W.Frag} {G : Hp} {a : Addr} {xs : List V} (h : TupF G a xs) : SqT K G a xs := let ⟨o, _, h2⟩ := h; .inl (.inr ⟨o, h2⟩)
mutual
inductive Rp (K : PySem.W.Frag) (G : Hp) : V → PyData → Prop
  | non : Rp K G .non .none
  | bl (b : Bool) : Rp K G (.bl b) (.bool b)
  | int (i : Int) : Rp K G (.int i) (.int i)
  | str (x : Str) : Rp K G (.str x) (.str x)
  | lst {a : Addr} {xs : List V} {ds : List PyData} : G a = some (.lst xs) → RpAll K G xs ds → Rp K G (.ref a) (.list ds)
  | tup {a : Addr} {xs : List V} {ds : List PyData} : TupF G a xs → RpAll K G xs ds → Rp K G (.ref a) (.tuple ds)
  | dic {a : Addr} {kvs : List (Key × V)} {es : List (PyData × PyData)} : G a = some (.dK kvs) → RpKv K G kvs es → Rp K G (.ref a) (.dict es)
inductive RpAll (K : PySem.W.Frag) (G : Hp) : List V → List PyData → Prop
  | nil : RpAll K G [] []
  | cons {v : V} {vs : List V} {d : PyData} {ds : List PyData} : Rp K G v d → RpAll K G vs ds → RpAll K G (v :: vs) (d :: ds)
inductive RpKv (K : PySem.W.Frag) (G : Hp) : List (Key × V) → List (PyData × PyData) → Prop
  | nil : RpKv K G [] []
  | cons {x : Str} {v : V} {d : PyData} {kvs : List (Key × V)} {es : List (PyData × PyData)} : Rp K G v d → RpKv K G kvs es → RpKv K G ((.inr x, v) :: kvs) ((.str x, d) :: es)
end

theorem same_t {K : PySem.W.Frag} {H H' : Hp} {a : Addr} {xs : List V} (e : Same H H') (h : SqT K H a xs) : SqT K H' a xs := by
  rcases h with (h | ⟨o, h⟩) | h
  · exact .inl (.inl (e _ _ h))
  · exact .inl (.inr ⟨o, e _ _ h⟩)
  · exact .inr h
mutual
theorem Rp.mono {K : PySem.W.Frag} {G G' : Hp} (e : Same G G') : ∀ {v : V} {d : PyData}, Rp K G v d → Rp K G' v d
  | _, _, .non => .non
  | _, _, .bl b => .bl b
  | _, _, .int i => .int i
  | _, _, .str x => .str x
  | _, _, .lst h r => .lst (e _ _ h) (RpAll.mono e r)
  | _, _, .tup h r => .tup (TupF.mono e h) (RpAll.mono e r)
  | _, _, .dic h r => .dic (e _ _ h) (RpKv.mono e r)
theorem RpAll.mono {K : PySem.W.Frag} {G G' : Hp} (e : Same G G') : ∀ {vs : List V} {ds : List PyData}, RpAll K G vs ds → RpAll K G' vs ds
  | _, _, .nil => .nil
  | _, _, .cons h r => .cons (Rp.mono e h) (RpAll.mono e r)
theorem RpKv.mono {K : PySem.W.Frag} {G G' : Hp} (e : Same G G') : ∀ {vs : List (Key × V)} {ds : List (PyData × PyData)}, RpKv K G vs ds → RpKv K G' vs ds
  | _, _, .nil => .nil
  | _, _, .cons h r => .cons (Rp.mono e h) (RpKv.mono e r)
end
section
variable {K : PySem.W.Frag} {G : Hp}
theorem RpAll.length : ∀ {vs : List V} {ds : List PyData}, RpAll K G vs ds → vs.length = ds.length
  | _, _, .nil => rfl
  | _, _, .cons _ r => congrArg (· + 1) r.length
theorem RpAll.append : ∀ {vs ws : List V} {ds es : List PyData}, RpAll K G vs ds → RpAll K G ws es → RpAll K G (vs ++ ws) (ds ++ es)
  | _, _, _, _, .nil, s => s
  | _, _, _, _, .cons h r, s => .cons h (r.append s)
theorem RpAll.get : ∀ {vs : List V} {ds : List PyData} {i : Nat} {d : PyData}, RpAll K G vs ds → ds[i]? = some d → ∃ v, vs[i]? = some v ∧ Rp K G v d
  | _, _, _, _, .nil, e => by simp at e
  | _, _, 0, _, .cons h r, e => by
    simp at e
    subst e
    exact ⟨_, rfl, h⟩
  | _, _, i + 1, d, .cons h r, e => by
    obtain ⟨v, h1, h2⟩ := RpAll.get (i := i) (d := d) r (by simpa using e)
    exact ⟨v, by simpa using h1, h2⟩
theorem RpAll.getV : ∀ {vs : List V} {ds : List PyData} {i : Nat} {v : V}, RpAll K G vs ds → vs[i]? = some v → ∃ d, ds[i]? = some d ∧ Rp K G v d
  | _, _, _, _, .nil, e => by simp at e
  | _, _, 0, _, .cons h r, e => by
    simp at e
    subst e
    exact ⟨_, rfl, h⟩
  | _, _, i + 1, d, .cons h r, e => by
    obtain ⟨v, h1, h2⟩ := RpAll.getV (i := i) (v := d) r (by simpa using e)
    exact ⟨v, by simpa using h1, h2⟩
theorem RpAll.take : ∀ {vs : List V} {ds : List PyData} (n : Nat), RpAll K G vs ds → RpAll K G (vs.take n) (ds.take n)
  | _, _, 0, _ => .nil
  | _, _, _ + 1, .nil => .nil
  | _, _, n + 1, .cons h r => .cons h (r.take n)
theorem RpAll.drop : ∀ {vs : List V} {ds : List PyData} (n : Nat), RpAll K G vs ds → RpAll K G (vs.drop n) (ds.drop n)
  | _, _, 0, r => r
  | _, _, _ + 1, .nil => .nil
  | _, _, n + 1, .cons _ r => r.drop n
theorem RpAll.strs : ∀ (xs : List Str), RpAll K G (xs.map V.str) (xs.map PyData.str)
  | [] => .nil
  | x :: r => .cons (.str x) (RpAll.strs r)
theorem RpAll.ints : ∀ (xs : List Int), RpAll K G (xs.map V.int) (xs.map PyData.int)
  | [] => .nil
  | x :: r => .cons (.int x) (RpAll.ints r)
theorem RpAll.of_strs : ∀ {xs : List Str} {vs : List V}, RpAll K G vs (xs.map PyData.str) → vs = xs.map V.str
  | [], _, .nil => rfl
  | x :: r, _, .cons (.str _) h => by
    show V.str x :: _ = _
    rw [RpAll.of_strs h]
    rfl
theorem RpAll.of_ints : ∀ {xs : List Int} {vs : List V}, RpAll K G vs (xs.map PyData.int) → vs = xs.map V.int
  | [], _, .nil => rfl
  | x :: r, _, .cons (.int _) h => by
    show V.int x :: _ = _
    rw [RpAll.of_ints h]
    rfl
end

/-! ### environments -/
abbrev DEnv := List (Option PyData)
structure Sl (K : PySem.W.Frag) (G : Hp) (σ : L2.St) (ρ : DEnv) : Prop where
  len : σ.length = ρ.length
  at_ : ∀ (i : Nat) (d : PyData), ρ[i]? = some (some d) → ∃ v, σ[i]? = some (some v) ∧ Rp K G v d
section
variable {K : PySem.W.Frag} {G G' : Hp} {σ : L2.St} {ρ : DEnv}
theorem Sl.mono (e : Same G G') (s : Sl K G σ ρ) : Sl K G' σ ρ := ⟨s.len, fun i d h => let ⟨v, h1, h2⟩ := s.at_ i d h; ⟨v, h1, h2.mono e⟩⟩
theorem Sl.set {i : Nat} {v : V} {d : PyData} (s : Sl K G σ ρ) (h : Rp K G v d) : Sl K G (σ.set i (some v)) (ρ.set i (some d)) := by
  refine ⟨by rw [List.length_set, List.length_set, s.len], fun j e hj => ?_⟩
  by_cases hi : i = j
  · subst hi
    have hl : i < ρ.length := by
      have q := (List.getElem?_eq_some_iff.mp hj).1
      rwa [List.length_set] at q
    rw [List.getElem?_set_self hl] at hj
    cases hj
    exact ⟨v, by rw [List.getElem?_set_self (by rw [s.len]; exact hl)], h⟩
  · rw [List.getElem?_set_ne hi] at hj
    obtain ⟨w, h1, h2⟩ := s.at_ j e hj
    exact ⟨w, by rw [List.getElem?_set_ne hi]; exact h1, h2⟩
theorem Sl.forget {i : Nat} {o : Option V} (s : Sl K G σ ρ) : Sl K G (σ.set i o) (ρ.set i none) := by
  refine ⟨by rw [List.length_set, List.length_set, s.len], fun j e hj => ?_⟩
  by_cases hi : i = j
  · subst hi
    have hl : i < ρ.length := by
      have q := (List.getElem?_eq_some_iff.mp hj).1
      rwa [List.length_set] at q
    rw [List.getElem?_set_self hl] at hj
    cases hj
  · rw [List.getElem?_set_ne hi] at hj
    obtain ⟨w, h1, h2⟩ := s.at_ j e hj
    exact ⟨w, by rw [List.getElem?_set_ne hi]; exact h1, h2⟩
/-- fewer slots told -/
theorem Sl.weak {ρ' : DEnv} (s : Sl K G σ ρ) (hl : ρ'.length = ρ.length) (h : ∀ (i : Nat) (d : PyData), ρ'[i]? = some (some d) → ρ[i]? = some (some d)) : Sl K G σ ρ' :=
  ⟨s.len.trans hl.symm, fun i d e => s.at_ i d (h i d e)⟩
end
def wipeE (ρ : DEnv) : List Nat → DEnv
  | [] => ρ
  | v :: vs => (wipeE ρ vs).set v none
theorem wipeE_length (ρ : DEnv) : ∀ vs : List Nat, (wipeE ρ vs).length = ρ.length
  | [] => rfl
  | v :: vs => by
    unfold wipeE
    rw [List.length_set, wipeE_length ρ vs]
theorem Sl.wipe {K : PySem.W.Frag} {G : Hp} {σ : L2.St} {ρ : DEnv} (s : Sl K G σ ρ) : ∀ vs : List Nat, Sl K G (L2.wipe σ vs) (wipeE ρ vs)
  | [] => s
  | v :: vs => (Sl.wipe s vs).forget (i := v)

/-! ### growing -/
/-- from (G, H) to (G', H'): both grew, and what is new in the region is new in the heap -/
structure Nxt (G H G' H' : Hp) : Prop where
  h : Same H H'
  g : Same G G'
  v : Same G' H'
  new : ∀ a o, G' a = some o → G a = some o ∨ H a = none
section
variable {G H G' H' G1 H1 G2 H2 : Hp}
theorem Nxt.refl (v : Same G H) : Nxt G H G H := ⟨Same.refl H, Same.refl G, v, fun _ _ h => .inl h⟩
theorem same_none {a : Addr} (e : Same H H') (h : H' a = none) : H a = none := e.free h
theorem Nxt.trans (a : Nxt G H G1 H1) (b : Nxt G1 H1 G2 H2) : Nxt G H G2 H2 :=
  ⟨a.h.trans b.h, a.g.trans b.g, b.v, fun x o e => by
    rcases b.new x o e with q | q
    · exact a.new x o q
    · exact .inr (a.h.free q)⟩
/-- a new object -/
theorem same_upd {p : Addr} {o : HO} (h : H p = none) : Same H (upd H p o) := fun b u e => by
  rw [upd_ne (ne_of_none e h)]
  exact e
theorem same_upd2 {p : Addr} {o : HO} (e : Same G H) (h : H p = none) : Same (upd G p o) (upd H p o) := fun b u q => by
  by_cases hb : b = p
  · subst hb
    rw [upd_same] at q ⊢
    exact q
  · rw [upd_ne hb] at q ⊢
    exact e b u q
theorem Nxt.upd {p : Addr} {o : HO} (v : Same G H) (h : H p = none) : Nxt G H (L2.upd G p o) (L2.upd H p o) :=
  ⟨same_upd h, same_upd (v.free h), same_upd2 v h, fun a u e => by
    by_cases hb : a = p
    · subst hb
      exact .inr h
    · rw [upd_ne hb] at e
      exact .inl e⟩
/-- the heap alone grew -/
theorem Nxt.heap (v : Same G H) (h : Same H H') : Nxt G H G H' := ⟨h, Same.refl G, v.trans h, fun _ _ e => .inl e⟩
/-- an address that is masked stays so -/
theorem Nxt.mask {a : Addr} {o : HO} (n : Nxt G H G' H') (hg : G a = none) (hh : H a = some o) : G' a = none := by
  cases q : G' a with
  | none => rfl
  | some u =>
    rcases n.new a u q with z | z
    · rw [hg] at z; cases z
    · rw [hh] at z; cases z
/-- a masked object is changed -/
theorem same_mask {a : Addr} {o : HO} (v : Same G H) (hg : G a = none) : Same G (L2.upd H a o) := fun b u e => by
  rw [upd_ne (ne_of_none e hg)]
  exact v b u e
end

/-! ### lifts -/
inductive Out where
  | nx (ρ : DEnv) | rt (d : PyData) | bk (ρ : DEnv) | ct (ρ : DEnv)
abbrev DE := DEnv → Option PyData
abbrev DT := DEnv → Option Bool
abbrev DA := DEnv → Option (List PyData)
abbrev DS := DEnv → Option Out
section
variable (K : PySem.W.Frag)
def liE (t : DE) : TE := fun σ H Q => ∃ G ρ d, Same G H ∧ Sl K G σ ρ ∧ t ρ = some d ∧ ∀ v G' H', Nxt G H G' H' → Rp K G' v d → Q v H'
def liT (t : DT) : TT := fun σ H Q => ∃ G ρ b, Same G H ∧ Sl K G σ ρ ∧ t ρ = some b ∧ ∀ G' H', Nxt G H G' H' → Q b H'
def liA (t : DA) : TA := fun σ H Q => ∃ G ρ ds, Same G H ∧ Sl K G σ ρ ∧ t ρ = some ds ∧ ∀ vs G' H', Nxt G H G' H' → RpAll K G' vs ds → Q vs H'
/-- the slots F stand -/
def Frm (F : List Nat) (σ σ' : L2.St) : Prop := ∀ j ∈ F, σ'[j]? = σ[j]?
/-- what is wanted behind a block, by its outcome; the slots F are left as they are -/
def OutK (F : List Nat) (G H : Hp) (σ : L2.St) (D : Ends) : Out → Prop
  | .nx ρ' => ∀ σ' G' H', Nxt G H G' H' → Sl K G' σ' ρ' → Frm F σ σ' → D.nx σ' H'
  | .rt d => ∀ v G' H', Nxt G H G' H' → Rp K G' v d → D.rt v H'
  | .bk ρ' => ∀ σ' G' H', Nxt G H G' H' → Sl K G' σ' ρ' → Frm F σ σ' → D.bk σ' H'
  | .ct ρ' => ∀ σ' G' H', Nxt G H G' H' → Sl K G' σ' ρ' → Frm F σ σ' → D.ct σ' H'
def liS (F : List Nat) (t : DS) : TS := fun D σ H => ∃ G ρ o, Same G H ∧ Sl K G σ ρ ∧ t ρ = some o ∧ OutK K F G H σ D o
/-- a target's value: a datum, or a loop's own tuple of data -/
def WRp (G : Hp) (v : V) (d : PyData) : Prop := Rp K G v d ∨ ∃ a xs ds, v = .ref a ∧ G a = some (.tup xs) ∧ RpAll K G xs ds ∧ d = .tuple ds
/-- the slots outside of tgs stand -/
def Agr (tgs : List Nat) (σ σ' : L2.St) : Prop := σ'.length = σ.length ∧ ∀ j : Nat, j ∉ tgs → σ'[j]? = σ[j]?
/-- binding a target (the slots tgs) -/
def liG (R : Hp → V → PyData → Prop) (tgs : List Nat) (t : PyData → DEnv → Option DEnv) : TG := fun v σ H Q => ∃ G ρ d ρ', Same G H ∧ Sl K G σ ρ ∧ R G v d ∧ t d ρ = some ρ' ∧ ∀ σ', Sl K G σ' ρ' → Agr tgs σ σ' → Q σ' H
def liGs (tgs : List Nat) (t : List PyData → DEnv → Option DEnv) : TGs := fun vs σ H Q => ∃ G ρ ds ρ', Same G H ∧ Sl K G σ ρ ∧ RpAll K G vs ds ∧ t ds ρ = some ρ' ∧ ∀ σ', Sl K G σ' ρ' → Agr tgs σ σ' → Q σ' H
/-- it gives the items of ds, one after another, while what is in G0 stands -/
structure WalkD (R : Hp → V → PyData → Prop) (J : It) (ds : List PyData) (G0 : Hp) : Prop where
  goes : ∀ i H, i < ds.length → Same G0 H → J.go i H
  stops : ∀ H, Same G0 H → J.stop ds.length H
  yields : ∀ i H x H' d G, ds[i]? = some d → Same G0 G → Same G H → J.yld i H x H' → ∃ G', Nxt G H G' H' ∧ R G' x d
def liI (R : Hp → V → PyData → Prop) (t : DA) : TI := fun σ H Q => ∃ G ρ ds, Same G H ∧ Sl K G σ ρ ∧ t ρ = some ds ∧ ∀ J G' H', Nxt G H G' H' → WalkD R J ds G' → Q J H'
end
theorem Frm.refl (F : List Nat) (σ : L2.St) : Frm F σ σ := fun _ _ => rfl
theorem Frm.trans {F : List Nat} {σ σ1 σ2 : L2.St} (a : Frm F σ σ1) (b : Frm F σ1 σ2) : Frm F σ σ2 := fun j hj => (b j hj).trans (a j hj)
theorem Frm.set {F : List Nat} {σ : L2.St} {i : Nat} {o : Option V} (h : i ∉ F) : Frm F σ (σ.set i o) := fun j hj => List.getElem?_set_ne fun e => h (by rw [e]; exact hj)
theorem Frm.of_agr {F tgs : List Nat} {σ σ' : L2.St} (a : Agr tgs σ σ') (h : ∀ i ∈ tgs, i ∉ F) : Frm F σ σ' := fun j hj => a.2 j fun m => h j m hj
theorem OutK.next {K : PySem.W.Frag} {F : List Nat} {G H G' H' : Hp} {σ σ' : L2.St} {D : Ends} {o : Out} (n : Nxt G H G' H') (f : Frm F σ σ') (h : OutK K F G H σ D o) : OutK K F G' H' σ' D o := by
  cases o with
  | nx ρ => exact fun σ2 G2 H2 m s f2 => h σ2 G2 H2 (n.trans m) s (f.trans f2)
  | rt d => exact fun v G2 H2 m s => h v G2 H2 (n.trans m) s
  | bk ρ => exact fun σ2 G2 H2 m s f2 => h σ2 G2 H2 (n.trans m) s (f.trans f2)
  | ct ρ => exact fun σ2 G2 H2 m s f2 => h σ2 G2 H2 (n.trans m) s (f.trans f2)
/-! ### weakening a reading -/
section
variable {X : Cx}
theorem PE.imp {e : Expr} {t t' : TE} (h : PE X e t) (w : ∀ σ H Q, t' σ H Q → t σ H Q) : PE X e t' := ⟨fun pins s σ H Q I q => h.run pins s σ H Q I (w σ H Q q)⟩
theorem PT.imp {e : Expr} {t t' : TT} (h : PT X e t) (w : ∀ σ H Q, t' σ H Q → t σ H Q) : PT X e t' := ⟨fun pins s σ H Q I q => h.run pins s σ H Q I (w σ H Q q)⟩
theorem PW.imp {e : Expr} {t t' : TT} (h : PW X e t) (w : ∀ σ H Q, t' σ H Q → t σ H Q) : PW X e t' := ⟨fun wh pins s σ H Q I q => h.run wh pins s σ H Q I (w σ H Q q)⟩
theorem PA.imp {es : List Expr} {t t' : TA} (h : PA X es t) (w : ∀ σ H Q, t' σ H Q → t σ H Q) : PA X es t' := ⟨fun pos pins s σ H Q I q => h.run pos pins s σ H Q I (w σ H Q q)⟩
theorem PS.imp {st : Stmt} {t t' : TS} (h : PS X st t) (w : ∀ D σ H, t' D σ H → t D σ H) : PS X st t' := ⟨fun pins s σ H D I q => h.run pins s σ H D I (w D σ H q)⟩
theorem PSs.imp {st : List Stmt} {t t' : TS} (h : PSs X st t) (w : ∀ D σ H, t' D σ H → t D σ H) : PSs X st t' := ⟨fun pins s σ H D I q => h.run pins s σ H D I (w D σ H q)⟩
theorem PG.imp {tg : Expr} {t t' : TG} (h : PG X tg t) (w : ∀ v σ H Q, t' v σ H Q → t v σ H Q) : PG X tg t' := ⟨fun pins s σ H v u Q I r q => h.run pins s σ H v u Q I r (w v σ H Q q)⟩
theorem PGs.imp {tg : List Expr} {t t' : TGs} (h : PGs X tg t) (w : ∀ v σ H Q, t' v σ H Q → t v σ H Q) : PGs X tg t' := ⟨fun pins s σ H v u Q I r q => h.run pins s σ H v u Q I r (w v σ H Q q)⟩
theorem PI.imp {tg it : Expr} {t t' : TI} (h : PI X tg it t) (w : ∀ σ H R, t' σ H R → t σ H R) : PI X tg it t' := ⟨fun pins s σ H R I q => h.run pins s σ H R I (w σ H R q)⟩
theorem PTs.imp {es : List Expr} {t t' : TT} (h : PTs X es t) (w : ∀ σ H Q, t' σ H Q → t σ H Q) : PTs X es t' := ⟨fun pins s σ H Q I q => h.run pins s σ H Q I (w σ H Q q)⟩
end
end Od
end
section
set_option maxHeartbeats 2000000
/-! OdExpr: expressions of the data layer. -/
namespace Od
open PySem PySem.Spec PyProof.Rows L2
def dVar (i : Nat) : DE := fun ρ => match ρ[i]? with
  | some (some d) => some d
  | _ => none
def dC (d : PyData) : DE := fun _ => some d
def dArgs : List DE → DA
  | [] => fun _ => some []
  | t :: ts => fun ρ => match t ρ with
    | some d => match dArgs ts ρ with
      | some ds => some (d :: ds)
      | none => none
    | none => none
def d1 (f : PyData → Option PyData) (t : DE) : DE := fun ρ => match t ρ with
  | some d => f d
  | none => none
def d2 (f : PyData → PyData → Option PyData) (t u : DE) : DE := fun ρ => match t ρ with
  | some d => match u ρ with
    | some e => f d e
    | none => none
  | none => none
def dN (f : List PyData → Option PyData) (t : DA) : DE := fun ρ => match t ρ with
  | some ds => f ds
  | none => none
def dTup (ts : List DE) : DE := fun ρ => match dArgs ts ρ with
  | some ds => some (.tuple ds)
  | none => none
def dLst (ts : List DE) : DE := fun ρ => match dArgs ts ρ with
  | some ds => some (.list ds)
  | none => none
def asB : PyData → Option Bool
  | .bool b => some b
  | _ => none
def dB (t : DE) : DT := fun ρ => match t ρ with
  | some (.bool b) => some b
  | _ => none
def dBE (t : DT) : DE := fun ρ => match t ρ with
  | some b => some (.bool b)
  | none => none
def dIf (c : DT) (t u : DE) : DE := fun ρ => match c ρ with
  | some true => t ρ
  | some false => u ρ
  | none => none
def dAndT (c d : DT) : DT := fun ρ => match c ρ with
  | some true => d ρ
  | some false => some false
  | none => none
def dOrT (c d : DT) : DT := fun ρ => match c ρ with
  | some true => some true
  | some false => d ρ
  | none => none
def dNotT (c : DT) : DT := fun ρ => match c ρ with
  | some b => some (!b)
  | none => none
theorem dArgs_length : ∀ {ts : List DE} {ρ : DEnv} {ds : List PyData}, dArgs ts ρ = some ds → ds.length = ts.length
  | [], _, _, e => by cases e; rfl
  | t :: ts, ρ, ds, e => by
    unfold dArgs at e
    cases h1 : t ρ with
    | none => rw [h1] at e; cases e
    | some d =>
      cases h2 : dArgs ts ρ with
      | none => rw [h1, h2] at e; cases e
      | some es =>
        rw [h1, h2] at e
        cases e
        exact congrArg (· + 1) (dArgs_length h2)

section
variable {X : Cx} {pos : Pos}
/-- a name in slot i -/
theorem pd (i : Nat) {x : Str} {pos : Pos} (hN : X.N[i]? = some x := by rfl) (hv : Vis X.env.scope x := by first | exact Or.inl rfl | exact Or.inr (Or.inl rfl) | exact Or.inr (Or.inr rfl)) (hd : (x == ("__debug__" : Str)) = false := by decide)
    (hcd : (x == ("__classdict__" : Str)) = false := by decide) : PE X (.Name x pos) (liE X.K (dVar i)) :=
  PE.imp (pe_var hN hv hd hcd) fun σ H Q ⟨G, ρ, d, v, s, e, k⟩ => by
    have e' : ρ[i]? = some (some d) := by
      unfold dVar at e
      split at e
      · cases e; assumption
      · cases e
    obtain ⟨w, h1, h2⟩ := s.at_ i d e'
    exact ⟨w, h1, k w G H (Nxt.refl v) h2⟩
theorem pd_c {e : Expr} {v : V} {d : PyData} (h : PE X e (tC v)) (r : ∀ G, Rp X.K G v d) : PE X e (liE X.K (dC d)) :=
  PE.imp h fun σ H Q ⟨G, ρ, d', vw, s, e, k⟩ => by
    cases e
    exact k v G H (Nxt.refl vw) (r G)
theorem pd_int {i j} : PE X (.Constant (.int i) j pos) (liE X.K (dC (.int i))) := pd_c pe_int fun _ => .int i
theorem pd_bl {b j} : PE X (.Constant (.bool b) j pos) (liE X.K (dC (.bool b))) := pd_c pe_bl fun _ => .bl b
theorem pd_non {j} : PE X (.Constant .none j pos) (liE X.K (dC .none)) := pd_c pe_non fun _ => .non
theorem pd_str {x j} : PE X (.Constant (.str x) j pos) (liE X.K (dC (.str x))) := pd_c pe_str fun _ => .str x

variable {e : Expr} {es : List Expr} {t u : DE} {ts : List DE}
theorem pda_nil : PA X [] (liA X.K (dArgs [])) := PA.imp pa_nil fun σ H Q ⟨G, ρ, ds, vw, s, e, k⟩ => by
  cases e
  exact k [] G H (Nxt.refl vw) .nil
theorem pda_cons (ha : PE X e (liE X.K t)) (hr : PA X es (liA X.K (dArgs ts))) (hs : starEach (e :: es) X.env = (false, eval e X.env) :: starEach es X.env := by rfl) : PA X (e :: es) (liA X.K (dArgs (t :: ts))) :=
  PA.imp (pa_cons ha hr hs) fun σ H Q ⟨G, ρ, ds, vw, s, e, k⟩ => by
    unfold dArgs at e
    cases h1 : t ρ with
    | none => rw [h1] at e; cases e
    | some d =>
      cases h2 : dArgs ts ρ with
      | none => rw [h1, h2] at e; cases e
      | some es =>
        rw [h1, h2] at e
        cases e
        exact ⟨G, ρ, d, vw, s, h1, fun x G1 H1 n1 r1 => ⟨G1, ρ, es, n1.v, s.mono n1.g, h2, fun xs G2 H2 n2 r2 => k (x :: xs) G2 H2 (n1.trans n2) (.cons (r1.mono n2.g) r2)⟩⟩
theorem small_line {n : Nat} (h : n ≤ 1000000) : n ≤ sizeLine := by rw [sizeLine_eq]; omega
/-- a new tuple, held with its object -/
def tTupF (t : TA) : TE := fun σ H Q => t σ H fun xs H1 => xs.length ≤ sizeLine ∧ ∀ (p : Addr) (o : Obj), H1 p = none → o.dict = none → Q (.ref p) (upd H1 p (.frz o (.tup xs)))
theorem lay_tup {pins : List (Addr × Obj)} {σ : L2.St} {H : Hp} {s : Shared} {xs : List V} {us : List Value} {Q : VK} {t' : Nat} (I : Inv X pins σ H s) (z : xs.length ≤ sizeLine) (r : Vals xs us)
    (q : ∀ (p : Addr) (o : Obj), H p = none → o.dict = none → Q (.ref p) (upd H p (.frz o (.tup xs)))) : EP X pins σ Q (.ref s.heap.objs.size) { s with heap := s.heap.push { cls := .type "tuple", data := .seq us.toArray }, toks := t' } := by
  have hf : H s.heap.objs.size = none := I.hok.fresh (Nat.le_refl _)
  refine ⟨.ref s.heap.objs.size, upd H s.heap.objs.size (.frz { cls := .type "tuple", data := .seq us.toArray } (.tup xs)), I.laid (t' := t') (fun b u e => Heap.get?_push_of_some _ e) (Nat.le_refl _) ?_, rfl, q _ _ hf rfl⟩
  exact ⟨Heap.get?_push_size _ rfl, z, us, r, ⟨_, Heap.get?_push_size _ rfl, rfl, _, rfl⟩⟩
theorem pe_tupF {x1} {t : TA} (h : PA X es t) : PE X (.Tuple es x1 pos) (tTupF t) := by
  refine ⟨fun pins s σ H Q I hq => ?_⟩
  exact wpAny_Tuple_spliced (thn (h.run pos pins s σ H _ I hq) fun us s1 ⟨xs, H1, I1, r, z, q⟩ => ⟨by rw [← r.length]; exact z, lay_tup (t' := s1.toks) I1 z r q⟩)
theorem pd_tup {x1} (h : PA X es (liA X.K (dArgs ts))) (hz : ts.length ≤ 1000000 := by decide) : PE X (.Tuple es x1 pos) (liE X.K (dTup ts)) :=
  PE.imp (pe_tupF h) fun σ H Q ⟨G, ρ, d, vw, s, e, k⟩ => by
    unfold dTup at e
    cases h2 : dArgs ts ρ with
    | none => rw [h2] at e; cases e
    | some ds =>
      rw [h2] at e
      cases e
      refine ⟨G, ρ, ds, vw, s, h2, fun vs G1 H1 n1 r1 => ⟨?_, fun p o hp ho => ?_⟩⟩
      · rw [r1.length, dArgs_length h2]
        exact small_line hz
      · have n2 := Nxt.upd (o := .frz o (.tup vs)) n1.v hp
        exact k _ _ _ (n1.trans n2) (.tup ⟨o, ho, upd_same⟩ (r1.mono n2.g))
theorem pd_lst (h : PA X es (liA X.K (dArgs ts))) (hz : ts.length ≤ 1000000 := by decide) : PE X (.List es pos) (liE X.K (dLst ts)) :=
  PE.imp (pe_lst h) fun σ H Q ⟨G, ρ, d, vw, s, e, k⟩ => by
    unfold dLst at e
    cases h2 : dArgs ts ρ with
    | none => rw [h2] at e; cases e
    | some ds =>
      rw [h2] at e
      cases e
      refine ⟨G, ρ, ds, vw, s, h2, fun vs G1 H1 n1 r1 => ⟨?_, fun p hp => ?_⟩⟩
      · rw [r1.length, dArgs_length h2]
        exact small_line hz
      · have n2 := Nxt.upd (o := .lst vs) n1.v hp
        exact k _ _ _ (n1.trans n2) (.lst upd_same (r1.mono n2.g))
/-! ### operations on data -/
def rD1 (K : PySem.W.Frag) (g : PyData → Option PyData) : V → Hp → VK → Prop := fun x H Q => ∃ G dx d, Same G H ∧ Rp K G x dx ∧ g dx = some d ∧ ∀ v G' H', Nxt G H G' H' → Rp K G' v d → Q v H'
def rD2 (K : PySem.W.Frag) (g : PyData → PyData → Option PyData) : R2 := fun x y H Q => ∃ G dx dy d, Same G H ∧ Rp K G x dx ∧ Rp K G y dy ∧ g dx dy = some d ∧ ∀ v G' H', Nxt G H G' H' → Rp K G' v d → Q v H'
def rDn (K : PySem.W.Frag) (g : List PyData → Option PyData) : List V → Hp → VK → Prop := fun xs H Q => ∃ G ds d, Same G H ∧ RpAll K G xs ds ∧ g ds = some d ∧ ∀ v G' H', Nxt G H G' H' → Rp K G' v d → Q v H'
theorem lift2 {K : PySem.W.Frag} {g : PyData → PyData → Option PyData} {σ : L2.St} {H : Hp} {Q : VK} (h : liE K (d2 g t u) σ H Q) : tOp (rD2 K g) (liE K t) (liE K u) σ H Q := by
  obtain ⟨G, ρ, d, vw, s, e, k⟩ := h
  unfold d2 at e
  cases h1 : t ρ with
  | none => rw [h1] at e; cases e
  | some x =>
    cases h2 : u ρ with
    | none => rw [h1, h2] at e; cases e
    | some y =>
      rw [h1, h2] at e
      exact ⟨G, ρ, x, vw, s, h1, fun vx G1 H1 n1 r1 => ⟨G1, ρ, y, n1.v, s.mono n1.g, h2, fun vy G2 H2 n2 r2 => ⟨G2, x, y, d, n2.v, r1.mono n2.g, r2, e, fun v G3 H3 n3 r3 => k v G3 H3 ((n1.trans n2).trans n3) r3⟩⟩⟩
theorem lift1 {K : PySem.W.Frag} {g : PyData → Option PyData} {σ : L2.St} {H : Hp} {Q : VK} (h : liE K (d1 g t) σ H Q) : tUn (rD1 K g) (liE K t) σ H Q := by
  obtain ⟨G, ρ, d, vw, s, e, k⟩ := h
  unfold d1 at e
  cases h1 : t ρ with
  | none => rw [h1] at e; cases e
  | some x =>
    rw [h1] at e
    exact ⟨G, ρ, x, vw, s, h1, fun vx G1 H1 n1 r1 => ⟨G1, x, d, n1.v, r1, e, fun v G3 H3 n3 r3 => k v G3 H3 (n1.trans n3) r3⟩⟩
theorem liftN {K : PySem.W.Frag} {g : List PyData → Option PyData} {t : DA} {σ : L2.St} {H : Hp} {Q : VK} (h : liE K (dN g t) σ H Q) : tCB (rDn K g) (liA K t) σ H Q := by
  obtain ⟨G, ρ, d, vw, s, e, k⟩ := h
  unfold dN at e
  cases h1 : t ρ with
  | none => rw [h1] at e; cases e
  | some x =>
    rw [h1] at e
    exact ⟨G, ρ, x, vw, s, h1, fun vx G1 H1 n1 r1 => ⟨G1, x, d, n1.v, r1, e, fun v G3 H3 n3 r3 => k v G3 H3 (n1.trans n3) r3⟩⟩
variable {a b : Expr} {g : PyData → PyData → Option PyData}
theorem pd_op {op : Operator} (ho : OpR X (binaryOp op) (rD2 X.K g)) (ha : PE X a (liE X.K t)) (hb : PE X b (liE X.K u)) : PE X (.BinOp a op b pos) (liE X.K (d2 g t u)) := PE.imp (pe_op ho ha hb) fun _ _ _ => lift2
theorem pd_un {op : UnaryOp} {g : PyData → Option PyData} (ho : UnR X (unaryOp op) (rD1 X.K g)) (ha : PE X a (liE X.K t)) : PE X (.UnaryOp op a pos) (liE X.K (d1 g t)) := PE.imp (pe_un ho ha) fun _ _ _ => lift1
theorem pd_cmp {op : CmpOp} (ho : OpR X (compareOp op) (rD2 X.K g)) (ha : PE X a (liE X.K t)) (hb : PE X b (liE X.K u)) (hm : behindInMarks op b = false := by first | exact nomark _ | rfl) : PE X (.Compare a [op] [b] pos) (liE X.K (d2 g t u)) := PE.imp (pe_cmpR ho ha hb hm) fun _ _ _ => lift2
theorem pd_ix (ho : IxR X (rD2 X.K g)) (ha : PE X a (liE X.K t)) (hb : PE X b (liE X.K u)) (hs : PlainIx b := by exact fun _ _ => rfl) : PE X (.Subscript a b pos) (liE X.K (d2 g t u)) := PE.imp (pe_ix ho ha hb hs) fun _ _ _ => lift2
theorem liB {K : PySem.W.Frag} {t : DE} {σ : L2.St} {H : Hp} {Q : Bool → Hp → Prop} (h : liT K (dB t) σ H Q) : liE K t σ H fun x H1 => ∃ c, x = .bl c ∧ Q c H1 := by
  obtain ⟨G, ρ, c, vw, s, e, k⟩ := h
  have e' : t ρ = some (.bool c) := by
    unfold dB at e
    split at e
    · rename_i b h
      cases e
      exact h
    · cases e
  exact ⟨G, ρ, _, vw, s, e', fun v G1 H1 n1 r1 => by cases r1; exact ⟨c, rfl, k G1 H1 n1⟩⟩
/-- a comparison as a test -/
theorem pdt_cmp {op : CmpOp} (ho : OpR X (compareOp op) (rD2 X.K g)) (ha : PE X a (liE X.K t)) (hb : PE X b (liE X.K u)) (hm : behindInMarks op b = false := by first | exact nomark _ | rfl) : PT X (.Compare a [op] [b] pos) (liT X.K (dB (d2 g t u))) :=
  PT.imp (pt_cmpR ho ha hb hm) fun σ H Q h => lift2 (liB h)
/-- a call, a name, a subscript that gives a bool, as a test -/
theorem pdt_val (h : PE X e (liE X.K t)) (he : ∀ whole, isTrue e X.env whole = (do let v ← whole; standAt e.pos; holding [v] (truthy v)) := by intro _; rfl) : PT X e (liT X.K (dB t)) := PT.imp (pt_val h he) fun σ H Q h => liB h
variable {c c' : DT} {rest : List Expr}
theorem pdw_and1 (ha : PT X a (liT X.K c)) : PW X (.BoolOp .And [a] pos) (liT X.K c) := pw_and1 ha
theorem pdw_or1 (ha : PT X a (liT X.K c)) : PW X (.BoolOp .Or [a] pos) (liT X.K c) := pw_or1 ha
theorem pdw_and (ha : PT X a (liT X.K c)) (hb : PW X (.BoolOp .And (b :: rest) pos) (liT X.K c')) : PW X (.BoolOp .And (a :: b :: rest) pos) (liT X.K (dAndT c c')) :=
  PW.imp (pw_and ha hb) fun σ H Q ⟨G, ρ, r, vw, s, e, k⟩ => by
    unfold dAndT at e
    cases h1 : c ρ with
    | none => rw [h1] at e; cases e
    | some x =>
      rw [h1] at e
      cases x with
      | true => exact ⟨G, ρ, true, vw, s, h1, fun G1 H1 n1 => ⟨G1, ρ, r, n1.v, s.mono n1.g, e, fun G2 H2 n2 => k G2 H2 (n1.trans n2)⟩⟩
      | false =>
        cases e
        exact ⟨G, ρ, false, vw, s, h1, fun G1 H1 n1 => k G1 H1 n1⟩
theorem pdw_or (ha : PT X a (liT X.K c)) (hb : PW X (.BoolOp .Or (b :: rest) pos) (liT X.K c')) : PW X (.BoolOp .Or (a :: b :: rest) pos) (liT X.K (dOrT c c')) :=
  PW.imp (pw_or ha hb) fun σ H Q ⟨G, ρ, r, vw, s, e, k⟩ => by
    unfold dOrT at e
    cases h1 : c ρ with
    | none => rw [h1] at e; cases e
    | some x =>
      rw [h1] at e
      cases x with
      | false => exact ⟨G, ρ, false, vw, s, h1, fun G1 H1 n1 => ⟨G1, ρ, r, n1.v, s.mono n1.g, e, fun G2 H2 n2 => k G2 H2 (n1.trans n2)⟩⟩
      | true =>
        cases e
        exact ⟨G, ρ, true, vw, s, h1, fun G1 H1 n1 => k G1 H1 n1⟩
theorem pdt_not (ha : PT X a (liT X.K c)) : PT X (.UnaryOp .Not a pos) (liT X.K (dNotT c)) :=
  PT.imp (pt_not ha) fun σ H Q ⟨G, ρ, r, vw, s, e, k⟩ => by
    unfold dNotT at e
    cases h1 : c ρ with
    | none => rw [h1] at e; cases e
    | some x =>
      rw [h1] at e
      cases e
      exact ⟨G, ρ, x, vw, s, h1, fun G1 H1 n1 => k G1 H1 n1⟩
/-- and, or, not as values: bools -/
theorem pd_one {op} (h : PE X a (liE X.K t)) : PE X (.BoolOp op [a] pos) (liE X.K t) := pe_one h
def dAnd (t u : DE) : DE := fun ρ => match t ρ with
  | some (.bool true) => u ρ
  | some (.bool false) => some (.bool false)
  | _ => none
def dOr (t u : DE) : DE := fun ρ => match t ρ with
  | some (.bool false) => u ρ
  | some (.bool true) => some (.bool true)
  | _ => none
def dNot (t : DE) : DE := fun ρ => match t ρ with
  | some (.bool b) => some (.bool (!b))
  | _ => none
theorem bool_of {t : DE} {ρ : DEnv} {f : Bool → Option PyData} {d : PyData} (e : (match t ρ with | some (.bool b) => f b | _ => none) = some d) : ∃ b, t ρ = some (.bool b) ∧ f b = some d := by
  split at e
  · rename_i b h
    exact ⟨b, h, e⟩
  · cases e
theorem pd_and (ha : PE X a (liE X.K t)) (hb : PE X (.BoolOp .And (b :: rest) pos) (liE X.K u)) : PE X (.BoolOp .And (a :: b :: rest) pos) (liE X.K (dAnd t u)) :=
  PE.imp (pe_and ha hb) fun σ H Q ⟨G, ρ, r, vw, s, e, k⟩ => by
    unfold dAnd at e
    split at e
    · rename_i h1
      exact ⟨G, ρ, _, vw, s, h1, fun v G1 H1 n1 r1 => by cases r1; exact ⟨true, rfl, iteT ⟨G1, ρ, r, n1.v, s.mono n1.g, e, fun w G2 H2 n2 r2 => k w G2 H2 (n1.trans n2) r2⟩⟩⟩
    · rename_i h1
      cases e
      exact ⟨G, ρ, _, vw, s, h1, fun v G1 H1 n1 r1 => by cases r1; exact ⟨false, rfl, iteF (k _ G1 H1 n1 (.bl false))⟩⟩
    · cases e
theorem pd_or (ha : PE X a (liE X.K t)) (hb : PE X (.BoolOp .Or (b :: rest) pos) (liE X.K u)) : PE X (.BoolOp .Or (a :: b :: rest) pos) (liE X.K (dOr t u)) :=
  PE.imp (pe_or ha hb) fun σ H Q ⟨G, ρ, r, vw, s, e, k⟩ => by
    unfold dOr at e
    split at e
    · rename_i h1
      exact ⟨G, ρ, _, vw, s, h1, fun v G1 H1 n1 r1 => by cases r1; exact ⟨false, rfl, iteF ⟨G1, ρ, r, n1.v, s.mono n1.g, e, fun w G2 H2 n2 r2 => k w G2 H2 (n1.trans n2) r2⟩⟩⟩
    · rename_i h1
      cases e
      exact ⟨G, ρ, _, vw, s, h1, fun v G1 H1 n1 r1 => by cases r1; exact ⟨true, rfl, iteT (k _ G1 H1 n1 (.bl true))⟩⟩
    · cases e
theorem pd_not (ha : PE X a (liE X.K t)) : PE X (.UnaryOp .Not a pos) (liE X.K (dNot t)) :=
  PE.imp (pe_not ha) fun σ H Q ⟨G, ρ, r, vw, s, e, k⟩ => by
    unfold dNot at e
    split at e
    · rename_i b h1
      cases e
      exact ⟨G, ρ, _, vw, s, h1, fun v G1 H1 n1 r1 => by cases r1; exact ⟨b, rfl, k _ G1 H1 n1 (.bl _)⟩⟩
    · cases e
theorem pd_if {cc : Expr} (hc : PT X cc (liT X.K c)) (ha : PE X a (liE X.K t)) (hb : PE X b (liE X.K u)) : PE X (.IfExp cc a b pos) (liE X.K (dIf c t u)) :=
  PE.imp (pe_ifExp hc ha hb) fun σ H Q ⟨G, ρ, r, vw, s, e, k⟩ => by
    unfold dIf at e
    split at e
    · rename_i h1
      exact ⟨G, ρ, _, vw, s, h1, fun G1 H1 n1 => iteT ⟨G1, ρ, r, n1.v, s.mono n1.g, e, fun w G2 H2 n2 r2 => k w G2 H2 (n1.trans n2) r2⟩⟩
    · rename_i h1
      exact ⟨G, ρ, _, vw, s, h1, fun G1 H1 n1 => iteF ⟨G1, ρ, r, n1.v, s.mono n1.g, e, fun w G2 H2 n2 r2 => k w G2 H2 (n1.trans n2) r2⟩⟩
    · cases e
/-! ### calls -/
variable {x : Str} {p : Pos} {id T : String} {f : List PyData → Option PyData} {ta : DA}
theorem pd_callB (hc : CallR X (.builtin id) (rDn X.K f)) (hg : Gl X x) (hm : X.mg x = none) (hv : bootBuiltins x = some (.builtin id)) (ha : PA X (e :: es) (liA X.K ta)) (hn : x ≠ "__name__" := by decide) (hdb : (x == ("__debug__" : Str)) = false := by decide)
    (he : starEach (e :: es) X.env = (false, eval e X.env) :: starEach es X.env := by rfl) (hpl : (backTo pos (starEach es X.env)).any (·.1) = false := by rfl) : PE X (.Call (.Name x p) (e :: es) [] pos) (liE X.K (dN f ta)) :=
  PE.imp (pe_callB hc hg hm hv ha hn hdb he hpl) fun _ _ _ => liftN
theorem pd_callTy (hc : CallR X (.type T) (rDn X.K f)) (hg : Gl X x) (hm : X.mg x = none) (hv : bootBuiltins x = some (.type T)) (ha : PA X (e :: es) (liA X.K ta)) (hn : x ≠ "__name__" := by decide) (hdb : (x == ("__debug__" : Str)) = false := by decide)
    (he : starEach (e :: es) X.env = (false, eval e X.env) :: starEach es X.env := by rfl) (hpl : (backTo pos (starEach es X.env)).any (·.1) = false := by rfl) : PE X (.Call (.Name x p) (e :: es) [] pos) (liE X.K (dN f ta)) :=
  PE.imp (pe_callTy hc hg hm hv ha hn hdb he hpl) fun _ _ _ => liftN
/-- a def's promise over data: n arguments, f what it hands back -/
def spD (K : PySem.W.Frag) (n : Nat) (f : List PyData → Option PyData) : Sp := fun vs H Q _ => vs.length = n ∧ rDn K f vs H Q
theorem pd_call {CX : CXT} {k : Nat} {fa : Addr} {fd : FuncData} {ps : List Str} {E : XK} (F : FnOk X.prog X.w X.K X.mg X.base CX k fa fd ps (spD X.K ps.length f)) (hr : Room k X.A) (hg : Gl X x) (hm : X.mg x = some (.ref fa)) (hk : PySem.W.keepIn X.K (.ref fa) = true) (hb : Binds X.K fd ps []) (hx : Passes CX X E)
    (ha : PA X (e :: es) (liA X.K (dArgs ts))) (hz : ts.length = ps.length := by rfl) (hdb : (x == ("__debug__" : Str)) = false := by decide) (he : starEach (e :: es) X.env = (false, eval e X.env) :: starEach es X.env := by rfl) (hpl : (backTo pos (starEach es X.env)).any (·.1) = false := by rfl) :
    PE X (.Call (.Name x p) (e :: es) [] pos) (liE X.K (dN f (dArgs ts))) :=
  PE.imp (pe_call F hr hg hm hk hb .nil hx ha hdb he hpl) fun σ H Q h => by
    obtain ⟨G, ρ, ds, vw, s, h1, q⟩ := liftN h
    refine ⟨G, ρ, ds, vw, s, h1, fun vs G1 H1 n1 r1 => ?_⟩
    show spD X.K ps.length f (vs ++ []) H1 Q E
    rw [List.append_nil]
    exact ⟨by rw [r1.length, dArgs_length h1, hz], q vs G1 H1 n1 r1⟩
end
end Od
end
section
set_option maxHeartbeats 2000000
/-! OdOps: the operations on data. -/
namespace Od
open PySem PySem.Spec PyProof.Rows L2
section
variable {X : Cx}
theorem OpR.imp {f : Value → Value → Sem Value} {r r' : R2} (h : OpR X f r) (w : ∀ x y H Q, r' x y H Q → r x y H Q) : OpR X f r' := fun pins s σ H x y v u Q I rx ry q => h pins s σ H x y v u Q I rx ry (w _ _ _ _ q)
theorem UnR.imp {f : Value → Sem Value} {r r' : V → Hp → VK → Prop} (h : UnR X f r) (w : ∀ x H Q, r' x H Q → r x H Q) : UnR X f r' := fun pins s σ H x v Q I rx q => h pins s σ H x v Q I rx (w _ _ _ q)
theorem CallR.imp {f : Value} {r r' : List V → Hp → VK → Prop} (h : CallR X f r) (w : ∀ xs H Q, r' xs H Q → r xs H Q) : CallR X f r' := fun pins s σ H xs us Q I rx q => h pins s σ H xs us Q I rx (w _ _ _ q)
theorem IxR.imp {r r' : R2} (h : IxR X r) (w : ∀ x y H Q, r' x y H Q → r x y H Q) : IxR X r' := fun va sl pins s σ H x y v u Q I rx ry q => h va sl pins s σ H x y v u Q I rx ry (w _ _ _ _ q)
end
section
variable {K : PySem.W.Frag} {G H : Hp} {a : Addr} {xs : List V} {ds : List PyData}
theorem lstH (vw : Same G H) (h : G a = some (.lst xs)) : H a = some (.lst xs) := vw _ _ h
end

/-! ### + - * and comparisons -/
def addD : PyData → PyData → Option PyData
  | .int i, .int j => some (.int (i + j))
  | .list xs, .list ys => if xs.length + ys.length ≤ 1000000 then some (.list (xs ++ ys)) else none
  | .tuple xs, .tuple ys => if xs.length + ys.length ≤ 1000000 then some (.tuple (xs ++ ys)) else none
  | _, _ => none
def subD : PyData → PyData → Option PyData
  | .int i, .int j => some (.int (i - j))
  | _, _ => none
def mulD : PyData → PyData → Option PyData
  | .int i, .int j => if i.natAbs ≤ 1000000 then some (.int (i * j)) else none
  | .list xs, .int k => if 0 ≤ k ∧ k ≤ 1000000 ∧ xs.length * k.toNat ≤ 1000000 then some (.list (List.replicate k.toNat xs).flatten) else none
  | _, _ => none
def negD : PyData → Option PyData
  | .int i => some (.int (-i))
  | _ => none
def eqD (x y : PyData) : Option PyData := if SeqAt.shaped x && SeqAt.shaped y then some (.bool (PyData.eqv x y)) else none
def neD (x y : PyData) : Option PyData := if SeqAt.shaped x && SeqAt.shaped y then some (.bool (!PyData.eqv x y)) else none
def ltD : PyData → PyData → Option PyData
  | .int i, .int j => some (.bool (decide (i < j)))
  | _, _ => none
def leD : PyData → PyData → Option PyData
  | .int i, .int j => some (.bool (decide (i ≤ j)))
  | _, _ => none
def gtD : PyData → PyData → Option PyData
  | .int i, .int j => some (.bool (decide (j < i)))
  | _, _ => none
def geD : PyData → PyData → Option PyData
  | .int i, .int j => some (.bool (decide (j ≤ i)))
  | _, _ => none
section
variable {X : Cx}
theorem flat_rep {K : PySem.W.Frag} {G : Hp} {vs : List V} {ds : List PyData} (h : RpAll K G vs ds) : ∀ k : Nat, RpAll K G (List.replicate k vs).flatten (List.replicate k ds).flatten
  | 0 => .nil
  | k + 1 => by
    rw [List.replicate_succ, List.replicate_succ, List.flatten_cons, List.flatten_cons]
    exact h.append (flat_rep h k)
theorem cat_ok {pins : List (Addr × Obj)} {s : Shared} {σ : L2.St} {H G : Hp} {a b : Addr} {xs ys : List V} {ds es : List PyData} {Q : VK} (I : Inv X pins σ H s) (vw : Same G H) (ha : TupF G a xs) (hb : TupF G b ys) (r1 : RpAll X.K G xs ds) (r2 : RpAll X.K G ys es)
    (hz : ds.length + es.length ≤ 1000000) (k : ∀ v G' H', Nxt G H G' H' → Rp X.K G' v (.tuple (ds ++ es)) → Q v H') : wpAny (model X.prog X.w) X.A (binaryOp .Add (.ref a) (.ref b)) (EP X pins σ Q) X.xe s := by
  obtain ⟨its, w1, p1, _⟩ := I.tuple (ha.mono vw).sq
  obtain ⟨its2, w2, p2, _⟩ := I.tuple (hb.mono vw).sq
  have l1 := r1.length
  have l2 := r2.length
  by_cases hx : xs = []
  · subst hx
    cases w1
    cases r1
    exact cat_tup0 p1 p2 ⟨.ref b, H, I, rfl, k _ G H (Nxt.refl vw) (.tup hb r2)⟩
  · refine HT.cat_tup p1 p2 (fun z => hx (w1.nil_iff.mp z)) (fun z => ⟨.ref a, H, I, rfl, k _ G H (Nxt.refl vw) ?_⟩) (fun z => ?_) (by rw [← w1.length, ← w2.length]; exact small_line (by omega))
    · have e : ys = [] := w2.nil_iff.mp z
      subst e
      cases r2
      rw [List.append_nil]
      exact .tup ha r1
    · refine lay_tup (t' := s.toks) (xs := xs ++ ys) I (by rw [List.length_append]; exact small_line (by omega)) (w1.append w2) fun p o hp ho => ?_
      exact k _ _ _ (Nxt.upd vw hp) (.tup ⟨o, ho, upd_same⟩ ((r1.append r2).mono (same_upd (vw.free hp))))
theorem op_addD : OpR X (binaryOp .Add) (rD2 X.K addD) := by
  intro pins s σ H x y v u Q I rx ry h
  obtain ⟨G, dx, dy, d, vw, hx, hy, e, k⟩ := h
  unfold addD at e
  split at e
  · cases hx
    cases hy
    cases e
    exact op_add pins s σ H _ _ v u Q I rx ry ⟨_, _, rfl, rfl, k _ G H (Nxt.refl vw) (.int _)⟩
  · rename_i ds es
    split at e
    · rename_i hz
      cases e
      cases hx with
      | lst ha r1 =>
        cases hy with
        | lst hb r2 =>
          refine op_cat pins s σ H _ _ v u Q I rx ry ⟨_, _, _, _, rfl, rfl, vw _ _ ha, vw _ _ hb, by rw [r1.length, r2.length]; exact small_line hz, fun p hp => ?_⟩
          exact k _ _ _ (Nxt.upd vw hp) (.lst upd_same ((r1.append r2).mono (same_upd (vw.free hp))))
    · cases e
  · split at e
    · rename_i hz
      cases e
      cases hx with
      | tup ha r1 =>
        cases hy with
        | tup hb r2 =>
          cases rx
          cases ry
          exact cat_ok I vw ha hb r1 r2 hz k
    · cases e
  · cases e
theorem op_subD : OpR X (binaryOp .Sub) (rD2 X.K subD) := OpR.imp op_sub fun x y H Q h => by
  obtain ⟨G, dx, dy, d, vw, hx, hy, e, k⟩ := h
  unfold subD at e
  split at e
  · cases hx
    cases hy
    cases e
    exact ⟨_, _, rfl, rfl, k _ G H (Nxt.refl vw) (.int _)⟩
  · cases e
theorem op_mulD : OpR X (binaryOp .Mult) (rD2 X.K mulD) := OpR.imp (L2.OpR.or op_mul op_rep) fun x y H Q h => by
  obtain ⟨G, dx, dy, d, vw, hx, hy, e, k⟩ := h
  unfold mulD at e
  split at e
  · split at e
    · rename_i i j hz
      cases hx
      cases hy
      cases e
      exact .inl ⟨_, _, rfl, rfl, .inl ⟨by omega, by omega⟩, k _ G H (Nxt.refl vw) (.int _)⟩
    · cases e
  · split at e
    · rename_i hz
      cases e
      cases hx with
      | lst ha r1 =>
        cases hy
        refine .inr ⟨_, _, _, rfl, rfl, vw _ _ ha, by omega, by omega, by rw [r1.length]; exact small_line hz.2.2, fun p hp => ?_⟩
        exact k _ _ _ (Nxt.upd vw hp) (.lst upd_same ((flat_rep r1 _).mono (same_upd (vw.free hp))))
    · cases e
  · cases e
theorem un_negD : UnR X (unaryOp .USub) (rD1 X.K negD) := UnR.imp un_neg fun x H Q h => by
  obtain ⟨G, dx, d, vw, hx, e, k⟩ := h
  unfold negD at e
  split at e
  · cases hx
    cases e
    exact ⟨_, rfl, k _ G H (Nxt.refl vw) (.int _)⟩
  · cases e
mutual
/-- as the layer's own relation, where there is no dict -/
theorem Rp.dp {K : PySem.W.Frag} {G H : Hp} (vw : Same G H) : ∀ {v : V} {d : PyData}, d.canLay0 = true → Rp K G v d → Dp K H v d
  | _, _, _, .non => .non
  | _, _, _, .bl b => .bl b
  | _, _, _, .int i => .int i
  | _, _, _, .str x => .str x
  | _, _, c, .lst h r => .lst (SqL.of (vw _ _ h)) (RpAll.dp vw (by simpa only [PyData.canLay0] using c) r)
  | _, _, c, .tup h r => .tup (h.mono vw).sq (RpAll.dp vw (by simpa only [PyData.canLay0] using c) r)
  | _, _, c, .dic h r => absurd c (by simp [PyData.canLay0])
theorem RpAll.dp {K : PySem.W.Frag} {G H : Hp} (vw : Same G H) : ∀ {v : List V} {d : List PyData}, PyData.canLayAll0 d = true → RpAll K G v d → DpAll K H v d
  | _, _, _, .nil => .nil
  | _, _, c, .cons h r => .cons (Rp.dp vw (by simp only [PyData.canLayAll0, Bool.and_eq_true] at c; exact c.1) h) (RpAll.dp vw (by simp only [PyData.canLayAll0, Bool.and_eq_true] at c; exact c.2) r)
end
theorem op_eqDD (hu : X.A.units + 64 < cLine) : OpR X (compareOp .Eq) (rD2 X.K eqD) := OpR.imp (op_eqD hu) fun x y H Q h => by
  obtain ⟨G, dx, dy, d, vw, hx, hy, e, k⟩ := h
  unfold eqD at e
  split at e
  · rename_i hc
    rw [Bool.and_eq_true] at hc
    cases e
    exact ⟨dx, dy, hx.dp vw (SeqAt.canLay_of_shaped hc.1), hy.dp vw (SeqAt.canLay_of_shaped hc.2), hc.1, hc.2, k _ G H (Nxt.refl vw) (.bl _)⟩
  · cases e
theorem op_neDD (hu : X.A.units + 64 < cLine) : OpR X (compareOp .NotEq) (rD2 X.K neD) := OpR.imp (op_neD hu) fun x y H Q h => by
  obtain ⟨G, dx, dy, d, vw, hx, hy, e, k⟩ := h
  unfold neD at e
  split at e
  · rename_i hc
    rw [Bool.and_eq_true] at hc
    cases e
    exact ⟨dx, dy, hx.dp vw (SeqAt.canLay_of_shaped hc.1), hy.dp vw (SeqAt.canLay_of_shaped hc.2), hc.1, hc.2, k _ G H (Nxt.refl vw) (.bl _)⟩
  · cases e
theorem cmp_ints {f : Value → Value → Sem Value} {p : Int → Int → Bool} {g : PyData → PyData → Option PyData} (ho : OpR X f (rI0 fun i j => .bl (p i j))) (hg : ∀ x y d, g x y = some d → ∃ i j, x = .int i ∧ y = .int j ∧ d = .bool (p i j)) : OpR X f (rD2 X.K g) := OpR.imp ho fun x y H Q h => by
  obtain ⟨G, dx, dy, d, vw, hx, hy, e, k⟩ := h
  obtain ⟨i, j, rfl, rfl, rfl⟩ := hg _ _ _ e
  cases hx
  cases hy
  exact ⟨_, _, rfl, rfl, k _ G H (Nxt.refl vw) (.bl _)⟩
theorem op_ltD : OpR X (compareOp .Lt) (rD2 X.K ltD) := cmp_ints op_lt fun x y d e => by
  unfold ltD at e
  split at e
  · cases e; exact ⟨_, _, rfl, rfl, rfl⟩
  · cases e
theorem op_leD : OpR X (compareOp .LtE) (rD2 X.K leD) := cmp_ints op_le fun x y d e => by
  unfold leD at e
  split at e
  · cases e; exact ⟨_, _, rfl, rfl, rfl⟩
  · cases e
theorem op_gtD : OpR X (compareOp .Gt) (rD2 X.K gtD) := cmp_ints op_gt fun x y d e => by
  unfold gtD at e
  split at e
  · cases e; exact ⟨_, _, rfl, rfl, rfl⟩
  · cases e
theorem op_geD : OpR X (compareOp .GtE) (rD2 X.K geD) := cmp_ints op_ge fun x y d e => by
  unfold geD at e
  split at e
  · cases e; exact ⟨_, _, rfl, rfl, rfl⟩
  · cases e
end
/-! ### in, is None -/
def flatD : PyData → Bool
  | .none => true
  | .bool _ => true
  | .int _ => true
  | .str _ => true
  | _ => false
def eqF : PyData → PyData → Bool
  | .none, .none => true
  | .bool a, .bool b => a == b
  | .bool a, .int b => (if a then 1 else 0) == b
  | .int a, .bool b => a == (if b then 1 else 0)
  | .int a, .int b => a == b
  | .str a, .str b => a == b
  | _, _ => false
def inF (x : PyData) (ys : List PyData) : Bool := ys.any fun y => eqF y x
def inD : PyData → PyData → Option PyData
  | x, .list ys => if flatD x && ys.all flatD then some (.bool (inF x ys)) else none
  | x, .tuple ys => if flatD x && ys.all flatD then some (.bool (inF x ys)) else none
  | .str y, .str z => match y.cps.toList with
    | [c] => some (.bool (decide (c ∈ z.cps.toList)))
    | _ => none
  | _, _ => none
def notInD : PyData → PyData → Option PyData
  | x, .list ys => if flatD x && ys.all flatD then some (.bool (!inF x ys)) else none
  | x, .tuple ys => if flatD x && ys.all flatD then some (.bool (!inF x ys)) else none
  | _, _ => none
def isNoneD : PyData → Bool
  | .none => true
  | _ => false
def isD : PyData → PyData → Option PyData
  | x, .none => some (.bool (isNoneD x))
  | _, _ => none
section
variable {X : Cx} {K : PySem.W.Frag} {G : Hp}
theorem Rp.flat {v : V} {d : PyData} (f : flatD d = true) (h : Rp K G v d) : flatV v = true := by
  cases h <;> first | rfl | (exact absurd f Bool.false_ne_true)
theorem RpAll.flat : ∀ {vs : List V} {ds : List PyData}, ds.all flatD = true → RpAll K G vs ds → vs.all flatV = true
  | _, _, _, .nil => rfl
  | _, _, f, .cons h r => by
    rw [List.all_cons, Bool.and_eq_true] at f ⊢
    exact ⟨h.flat f.1, r.flat f.2⟩
theorem eqV_of {v w : V} {d e : PyData} (f : flatD d = true) (g : flatD e = true) (h : Rp K G v d) (h' : Rp K G w e) : eqV v w = eqF d e := by
  cases h <;> cases h' <;> first | rfl | (exact absurd f Bool.false_ne_true) | (exact absurd g Bool.false_ne_true)
theorem inV_of {v : V} {d : PyData} (f : flatD d = true) (h : Rp K G v d) : ∀ {vs : List V} {ds : List PyData}, ds.all flatD = true → RpAll K G vs ds → inV v vs = inF d ds
  | _, _, _, .nil => rfl
  | _, _, g, .cons h' r => by
    rw [List.all_cons, Bool.and_eq_true] at g
    have e1 := eqV_of g.1 f h' h
    have e2 := inV_of f h g.2 r
    unfold inV inF at e2 ⊢
    rw [List.any_cons, List.any_cons, e1, e2]
theorem op_inD : OpR X (compareOp .In) (rD2 X.K inD) := OpR.imp (L2.OpR.or op_in_seq op_in_sign) fun x y H Q h => by
  obtain ⟨G, dx, dy, d, vw, hx, hy, e, k⟩ := h
  unfold inD at e
  split at e
  · split at e
    · rename_i hc
      rw [Bool.and_eq_true] at hc
      cases e
      cases hy with
      | lst hb r =>
        refine .inl ⟨_, _, rfl, .inl (SqL.of (vw _ _ hb)), hx.flat hc.1, r.flat hc.2, ?_⟩
        rw [inV_of hc.1 hx hc.2 r]
        exact k _ G H (Nxt.refl vw) (.bl _)
    · cases e
  · split at e
    · rename_i hc
      rw [Bool.and_eq_true] at hc
      cases e
      cases hy with
      | tup hb r =>
        refine .inl ⟨_, _, rfl, .inr (hb.mono vw).sq, hx.flat hc.1, r.flat hc.2, ?_⟩
        rw [inV_of hc.1 hx hc.2 r]
        exact k _ G H (Nxt.refl vw) (.bl _)
    · cases e
  · rename_i y z
    split at e
    · rename_i c hc
      have hy' : y = ⟨#[c]⟩ := by
        cases y with
        | mk cps =>
          have : cps = #[c] := by
            apply Array.ext'
            exact hc
          rw [this]
      cases e
      cases hx
      cases hy
      exact .inr ⟨c, _, by rw [hy'], rfl, k _ G H (Nxt.refl vw) (.bl _)⟩
    · cases e
  · cases e
theorem op_notInD : OpR X (compareOp .NotIn) (rD2 X.K notInD) := OpR.imp op_notIn_seq fun x y H Q h => by
  obtain ⟨G, dx, dy, d, vw, hx, hy, e, k⟩ := h
  unfold notInD at e
  split at e
  · split at e
    · rename_i hc
      rw [Bool.and_eq_true] at hc
      cases e
      cases hy with
      | lst hb r =>
        refine ⟨_, _, rfl, .inl (SqL.of (vw _ _ hb)), hx.flat hc.1, r.flat hc.2, ?_⟩
        rw [inV_of hc.1 hx hc.2 r]
        exact k _ G H (Nxt.refl vw) (.bl _)
    · cases e
  · split at e
    · rename_i hc
      rw [Bool.and_eq_true] at hc
      cases e
      cases hy with
      | tup hb r =>
        refine ⟨_, _, rfl, .inr (hb.mono vw).sq, hx.flat hc.1, r.flat hc.2, ?_⟩
        rw [inV_of hc.1 hx hc.2 r]
        exact k _ G H (Nxt.refl vw) (.bl _)
    · cases e
  · cases e
theorem op_isD : OpR X (compareOp .Is) (rD2 X.K isD) := OpR.imp op_isN fun x y H Q h => by
  obtain ⟨G, dx, dy, d, vw, hx, hy, e, k⟩ := h
  unfold isD at e
  split at e
  · cases e
    cases hy
    refine ⟨rfl, ?_⟩
    have z : decide (x = V.non) = isNoneD dx := by cases hx <;> rfl
    rw [z]
    exact k _ G H (Nxt.refl vw) (.bl _)
  · cases e
end
/-! ### subscripts, slices -/
def ixD : PyData → PyData → Option PyData
  | .list ds, .int i => atI ds i
  | .tuple ds, .int i => atI ds i
  | _, _ => none
theorem atI_rp {K : PySem.W.Frag} {G : Hp} {vs : List V} {ds : List PyData} {i : Int} {d : PyData} (r : RpAll K G vs ds) (h : atI ds i = some d) : ∃ v, atI vs i = some v ∧ Rp K G v d := by
  unfold atI at h ⊢
  rw [r.length]
  cases q : ixN ds.length i with
  | none => rw [q] at h; cases h
  | some j =>
    rw [q] at h
    exact r.get h
def cutL {α : Type} (xs : List α) (lo hi : Option Int) : List α := (xs.drop (HT.sIx xs.length 0 lo)).take (HT.sIx xs.length xs.length hi - HT.sIx xs.length 0 lo)
theorem cut_rp {K : PySem.W.Frag} {G : Hp} {vs : List V} {ds : List PyData} (r : RpAll K G vs ds) (lo hi : Option Int) : RpAll K G (cutV vs lo hi) (cutL ds lo hi) := by
  unfold cutV cutL
  rw [r.length]
  exact (r.drop _).take _
theorem cut_whole {α : Type} {xs : List α} {lo hi : Option Int} (h : HT.sIx xs.length 0 lo = 0 ∧ HT.sIx xs.length xs.length hi = xs.length) : cutL xs lo hi = xs := by
  unfold cutL
  rw [h.1, h.2, List.drop_zero, Nat.sub_zero, List.take_length]
def slD (lo hi : Option Int) : PyData → Option PyData
  | .list ds => some (.list (cutL ds lo hi))
  | .tuple ds => some (.tuple (cutL ds lo hi))
  | _ => none
def rDs (K : PySem.W.Frag) : V → Option Int → Option Int → Hp → VK → Prop := fun x lo hi H Q => ∃ G dx d, Same G H ∧ Rp K G x dx ∧ slD lo hi dx = some d ∧ ∀ v G' H', Nxt G H G' H' → Rp K G' v d → Q v H'
abbrev DO := DEnv → Option (Option Int)
def liO (K : PySem.W.Frag) (t : DO) : TO := fun σ H Q => ∃ G ρ o, Same G H ∧ Sl K G σ ρ ∧ t ρ = some o ∧ ∀ G' H', Nxt G H G' H' → Q o H'
def dNo : DO := fun _ => some none
def dPart (t : DE) : DO := fun ρ => match t ρ with
  | some (.int i) => some (some i)
  | _ => none
def dSl (t : DE) (lo hi : DO) : DE := fun ρ => match t ρ with
  | some d => match lo ρ with
    | some l => match hi ρ with
      | some h => slD l h d
      | none => none
    | none => none
  | none => none
section
variable {X : Cx} {pos p2 : Pos} {e : Expr} {t : DE} {lo hi : Option Expr} {tl th : DO}
theorem ix_D : IxR X (rD2 X.K ixD) := IxR.imp (L2.IxR.or ix_list ix_tup) fun x y H Q h => by
  obtain ⟨G, dx, dy, d, vw, hx, hy, e, k⟩ := h
  unfold ixD at e
  split at e
  · cases hx with
    | lst ha r =>
      cases hy
      obtain ⟨v, h1, h2⟩ := atI_rp r e
      exact .inl ⟨_, _, _, v, rfl, rfl, SqL.of (vw _ _ ha), h1, k _ G H (Nxt.refl vw) h2⟩
  · cases hx with
    | tup ha r =>
      cases hy
      obtain ⟨v, h1, h2⟩ := atI_rp r e
      exact .inr ⟨_, _, _, v, rfl, rfl, (ha.mono vw).sq, h1, k _ G H (Nxt.refl vw) h2⟩
  · cases e
theorem sl_D : SlR X (rDs X.K) := by
  intro pins s σ H x v vl vu lo hi sl Q I rx hs pl pu h
  obtain ⟨G, dx, d, vw, hx, e, k⟩ := h
  unfold slD at e
  split at e
  · cases e
    cases hx with
    | lst ha r =>
      refine sl_list pins s σ H _ v vl vu lo hi sl Q I rx hs pl pu ⟨_, _, rfl, SqL.of (vw _ _ ha), fun p hp => ?_⟩
      exact k _ _ _ (Nxt.upd vw hp) (.lst upd_same ((cut_rp r lo hi).mono (same_upd (vw.free hp))))
  · rename_i ds
    cases e
    cases hx with
    | @tup a xs _ ha r =>
      cases rx
      obtain ⟨its, w, ht, hz⟩ := I.tuple (ha.mono vw).sq
      have hlen : its.toArray.size = xs.length := by rw [List.size_toArray]; exact w.length.symm
      refine ⟨"tuple", _, PyProof.Rows.slot_tuple_getitem.lookup, ht.typeIs, ?_⟩
      by_cases hw : HT.sIx xs.length 0 lo = 0 ∧ HT.sIx xs.length xs.length hi = xs.length
      · refine getItem_tuple_whole ht hs pl pu (by rw [hlen]; exact hw) ⟨.ref a, H, I, rfl, k _ G H (Nxt.refl vw) ?_⟩
        rw [cut_whole (by rw [← r.length]; exact hw)]
        exact .tup ha r
      · refine HT.getItem_tuple_cut ht hs pl pu (by rw [hlen]; exact hw) ?_ (by rw [hlen]; exact hz)
        rw [hlen]
        have wc : Vals (cutV xs lo hi) ((its.drop (HT.sIx xs.length 0 lo)).take (HT.sIx xs.length xs.length hi - HT.sIx xs.length 0 lo)) := (w.drop _).take _
        refine lay_tup (t' := s.toks) (xs := cutV xs lo hi) I (Nat.le_trans (cutV_length xs lo hi) hz) wc fun p o hp ho => ?_
        exact k _ _ _ (Nxt.upd vw hp) (.tup ⟨o, ho, upd_same⟩ ((cut_rp r lo hi).mono (same_upd (vw.free hp))))
  · cases e
theorem PO.imp {e : Option Expr} {t t' : TO} (h : PO X e t) (w : ∀ σ H Q, t' σ H Q → t σ H Q) : PO X e t' := ⟨fun pins s σ H Q I q => h.run pins s σ H Q I (w σ H Q q)⟩
theorem pdo_none : PO X none (liO X.K dNo) := PO.imp po_none fun σ H Q ⟨G, ρ, o, vw, s, e, k⟩ => by
  cases e
  exact k G H (Nxt.refl vw)
theorem pdo_some (h : PE X e (liE X.K t)) : PO X (some e) (liO X.K (dPart t)) := PO.imp (po_some h) fun σ H Q ⟨G, ρ, o, vw, s, e, k⟩ => by
  unfold dPart at e
  split at e
  · rename_i i h1
    cases e
    exact ⟨G, ρ, _, vw, s, h1, fun v G1 H1 n1 r1 => by cases r1; exact ⟨i, rfl, k G1 H1 n1⟩⟩
  · cases e
theorem pd_slice (he : PE X e (liE X.K t)) (hl : PO X lo (liO X.K tl)) (hu : PO X hi (liO X.K th)) : PE X (.Subscript e (.Slice lo hi none p2) pos) (liE X.K (dSl t tl th)) :=
  PE.imp (pe_slice sl_D he hl hu) fun σ H Q ⟨G, ρ, d, vw, s, e, k⟩ => by
    unfold dSl at e
    cases h1 : t ρ with
    | none => rw [h1] at e; cases e
    | some x =>
      cases h2 : tl ρ with
      | none => rw [h1, h2] at e; cases e
      | some l =>
        cases h3 : th ρ with
        | none => rw [h1, h2, h3] at e; cases e
        | some h =>
          rw [h1, h2, h3] at e
          exact ⟨G, ρ, x, vw, s, h1, fun v G1 H1 n1 r1 => ⟨G1, ρ, l, n1.v, s.mono n1.g, h2, fun G2 H2 n2 => ⟨G2, ρ, h, n2.v, s.mono (n1.g.trans n2.g), h3, fun G3 H3 n3 => ⟨G3, x, d, n3.v, r1.mono (n2.g.trans n3.g), e, fun w G4 H4 n4 r4 => k w G4 H4 (((n1.trans n2).trans n3).trans n4) r4⟩⟩⟩⟩
end
end Od
end
section
set_option maxHeartbeats 2000000
/-! OdCall: built-ins over data. -/
namespace Od
open PySem PySem.Spec PyProof.Rows L2
def lenD : List PyData → Option PyData
  | [.list ds] => some (.int ds.length)
  | [.tuple ds] => some (.int ds.length)
  | [.str x] => if x.length ≤ 1000000 then some (.int x.length) else none
  | _ => none
def boolsOf : List PyData → Option (List Bool)
  | [] => some []
  | .bool b :: r => match boolsOf r with
    | some bs => some (b :: bs)
    | none => none
  | _ => none
def intsOf : List PyData → Option (List Int)
  | [] => some []
  | .int b :: r => match intsOf r with
    | some bs => some (b :: bs)
    | none => none
  | _ => none
def allD : List PyData → Option PyData
  | [.list ds] => match boolsOf ds with
    | some bs => some (.bool (bs.all id))
    | none => none
  | _ => none
def sumD : List PyData → Option PyData
  | [.list ds] => match intsOf ds with
    | some bs => some (.int bs.sum)
    | none => none
  | _ => none
def lowI : List Int → Int
  | [] => 0
  | [x] => x
  | x :: y :: r => if lowI (y :: r) < x then lowI (y :: r) else x
def topI : List Int → Int
  | [] => 0
  | [x] => x
  | x :: y :: r => if x < topI (y :: r) then topI (y :: r) else x
def minD : List PyData → Option PyData
  | [.int i, .int j] => some (.int (if j < i then j else i))
  | [.list ds] => match intsOf ds with
    | some [] => none
    | some (n :: r) => some (.int (lowI (n :: r)))
    | none => none
  | _ => none
def maxD : List PyData → Option PyData
  | [.int i, .int j] => some (.int (if j > i then j else i))
  | [.list ds] => match intsOf ds with
    | some [] => none
    | some (n :: r) => some (.int (topI (n :: r)))
    | none => none
  | _ => none
def tupD : List PyData → Option PyData
  | [.list ds] => some (.tuple ds)
  | [.tuple ds] => some (.tuple ds)
  | _ => none
def lisD : List PyData → Option PyData
  | [.list ds] => some (.list ds)
  | [.tuple ds] => some (.list ds)
  | _ => none
def intD : List PyData → Option PyData
  | [.int i] => some (.int i)
  | [.bool b] => some (.int (if b then 1 else 0))
  | _ => none
def absD : List PyData → Option PyData
  | [.int i] => some (.int (if i < 0 then -i else i))
  | _ => none
def strD : List PyData → Option PyData
  | [.str x] => some (.str x)
  | _ => none
theorem lowI_mem : ∀ (l : List Int), l ≠ [] → lowI l ∈ l ∧ ∀ y ∈ l, lowI l ≤ y
  | [], h => absurd rfl h
  | [x], _ => ⟨by simp [lowI], fun y hy => by simp at hy; subst hy; exact Int.le_refl _⟩
  | x :: y :: r, _ => by
    obtain ⟨h1, h2⟩ := lowI_mem (y :: r) (by simp)
    unfold lowI
    by_cases c : lowI (y :: r) < x
    · rw [if_pos c]
      refine ⟨List.mem_cons_of_mem _ h1, fun z hz => ?_⟩
      rcases List.mem_cons.mp hz with rfl | hz
      · omega
      · exact h2 z hz
    · rw [if_neg c]
      refine ⟨List.mem_cons_self, fun z hz => ?_⟩
      rcases List.mem_cons.mp hz with rfl | hz
      · exact Int.le_refl _
      · have := h2 z hz
        omega
theorem topI_mem : ∀ (l : List Int), l ≠ [] → topI l ∈ l ∧ ∀ y ∈ l, y ≤ topI l
  | [], h => absurd rfl h
  | [x], _ => ⟨by simp [topI], fun y hy => by simp at hy; subst hy; exact Int.le_refl _⟩
  | x :: y :: r, _ => by
    obtain ⟨h1, h2⟩ := topI_mem (y :: r) (by simp)
    unfold topI
    by_cases c : x < topI (y :: r)
    · rw [if_pos c]
      refine ⟨List.mem_cons_of_mem _ h1, fun z hz => ?_⟩
      rcases List.mem_cons.mp hz with rfl | hz
      · omega
      · exact h2 z hz
    · rw [if_neg c]
      refine ⟨List.mem_cons_self, fun z hz => ?_⟩
      rcases List.mem_cons.mp hz with rfl | hz
      · exact Int.le_refl _
      · have := h2 z hz
        omega
section
variable {K : PySem.W.Frag} {G : Hp}
theorem bools_rp : ∀ {vs : List V} {ds : List PyData} {bs : List Bool}, RpAll K G vs ds → boolsOf ds = some bs → vs = bs.map V.bl
  | _, _, _, .nil, e => by cases e; rfl
  | _, _, bs, .cons (d := d) (ds := ds) h r, e => by
    cases d with
    | bool b =>
      unfold boolsOf at e
      cases q : boolsOf ds with
      | none => rw [q] at e; cases e
      | some cs =>
        rw [q] at e
        cases e
        cases h
        rw [bools_rp r q, List.map_cons]
    | _ => cases e
theorem ints_rp : ∀ {vs : List V} {ds : List PyData} {bs : List Int}, RpAll K G vs ds → intsOf ds = some bs → vs = bs.map V.int
  | _, _, _, .nil, e => by cases e; rfl
  | _, _, bs, .cons (d := d) (ds := ds) h r, e => by
    cases d with
    | int b =>
      unfold intsOf at e
      cases q : intsOf ds with
      | none => rw [q] at e; cases e
      | some cs =>
        rw [q] at e
        cases e
        cases h
        rw [ints_rp r q, List.map_cons]
    | _ => cases e
theorem one_rp {vs : List V} {d : PyData} (h : RpAll K G vs [d]) : ∃ v, vs = [v] ∧ Rp K G v d := by
  cases h with
  | cons h r => cases r; exact ⟨_, rfl, h⟩
theorem two_rp {vs : List V} {d e : PyData} (h : RpAll K G vs [d, e]) : ∃ v w, vs = [v, w] ∧ Rp K G v d ∧ Rp K G w e := by
  cases h with
  | cons h r =>
    cases r with
    | cons h' r => cases r; exact ⟨_, _, rfl, h, h'⟩
end
section
variable {X : Cx}
theorem call_lenDD : CallR X (.builtin "len") (rDn X.K lenD) := CallR.imp call_len fun xs H Q h => by
  obtain ⟨G, ds, d, vw, hx, e, k⟩ := h
  unfold lenD at e
  split at e
  · obtain ⟨v, rfl, h⟩ := one_rp hx
    cases e
    cases h with
    | lst ha r => exact ⟨_, _, rfl, .inl ⟨_, SqL.of (vw _ _ ha), rfl⟩, by rw [r.length]; exact k _ G H (Nxt.refl vw) (.int _)⟩
  · obtain ⟨v, rfl, h⟩ := one_rp hx
    cases e
    cases h with
    | tup ha r => exact ⟨_, _, rfl, .inr ⟨_, (ha.mono vw).sq, rfl⟩, by rw [r.length]; exact k _ G H (Nxt.refl vw) (.int _)⟩
  · obtain ⟨v, rfl, h⟩ := one_rp hx
    split at e
    · rename_i hz
      cases e
      cases h
      exact ⟨_, _, rfl, ⟨small_line hz, rfl⟩, k _ G H (Nxt.refl vw) (.int _)⟩
    · cases e
  · cases e
theorem call_allD (hc : X.calm = true) : CallR X (.builtin "all") (rDn X.K allD) := CallR.imp (cr_all hc) fun xs H Q h => by
  obtain ⟨G, ds, d, vw, hx, e, k⟩ := h
  unfold allD at e
  split at e
  · split at e
    · rename_i h1
      obtain ⟨v, rfl, h⟩ := one_rp hx
      cases e
      cases h with
      | lst ha r =>
        have z := bools_rp r h1
        subst z
        exact ⟨_, _, rfl, SqL.of (vw _ _ ha), k _ G H (Nxt.refl vw) (.bl _)⟩
    · cases e
  · cases e
theorem call_sumD (hc : X.calm = true) : CallR X (.builtin "sum") (rDn X.K sumD) := CallR.imp (cr_sum hc) fun xs H Q h => by
  obtain ⟨G, ds, d, vw, hx, e, k⟩ := h
  unfold sumD at e
  split at e
  · split at e
    · rename_i h1
      obtain ⟨v, rfl, h⟩ := one_rp hx
      cases e
      cases h with
      | lst ha r =>
        have z := ints_rp r h1
        subst z
        exact ⟨_, _, rfl, SqL.of (vw _ _ ha), k _ G H (Nxt.refl vw) (.int _)⟩
    · cases e
  · cases e
theorem call_minD (hc : X.calm = true) : CallR X (.builtin "min") (rDn X.K minD) := CallR.imp (L2.CallR.or (call_min2 hc) (cr_min hc)) fun xs H Q h => by
  obtain ⟨G, ds, d, vw, hx, e, k⟩ := h
  unfold minD at e
  split at e
  · obtain ⟨v, w, rfl, h, h'⟩ := two_rp hx
    cases e
    cases h
    cases h'
    exact .inl ⟨_, _, rfl, k _ G H (Nxt.refl vw) (.int _)⟩
  · split at e
    · cases e
    · rename_i n r h1
      obtain ⟨v, rfl, h⟩ := one_rp hx
      cases e
      cases h with
      | lst ha r =>
        have z := ints_rp r h1
        subst z
        refine .inr ⟨_, _, rfl, SqL.of (vw _ _ ha), by simp, fun m hm hle => ?_⟩
        obtain ⟨q1, q2⟩ := lowI_mem (n :: _) (by simp)
        have em : m = lowI (n :: _) := Int.le_antisymm (hle _ q1) (q2 m hm)
        rw [em]
        exact k _ G H (Nxt.refl vw) (.int _)
    · cases e
  · cases e
theorem call_maxD (hc : X.calm = true) : CallR X (.builtin "max") (rDn X.K maxD) := CallR.imp (L2.CallR.or (call_max2 hc) (cr_max hc)) fun xs H Q h => by
  obtain ⟨G, ds, d, vw, hx, e, k⟩ := h
  unfold maxD at e
  split at e
  · obtain ⟨v, w, rfl, h, h'⟩ := two_rp hx
    cases e
    cases h
    cases h'
    exact .inl ⟨_, _, rfl, k _ G H (Nxt.refl vw) (.int _)⟩
  · split at e
    · cases e
    · rename_i n r h1
      obtain ⟨v, rfl, h⟩ := one_rp hx
      cases e
      cases h with
      | lst ha r =>
        have z := ints_rp r h1
        subst z
        refine .inr ⟨_, _, rfl, SqL.of (vw _ _ ha), by simp, fun m hm hle => ?_⟩
        obtain ⟨q1, q2⟩ := topI_mem (n :: _) (by simp)
        have em : m = topI (n :: _) := Int.le_antisymm (q2 m hm) (hle _ q1)
        rw [em]
        exact k _ G H (Nxt.refl vw) (.int _)
    · cases e
  · cases e
/-- tuple(xs): a new one of a list, the same of a tuple -/
theorem call_tupD : CallR X (.type "tuple") (rDn X.K tupD) := by
  intro pins s σ H xs us Q I r h
  obtain ⟨G, ds, d, vw, hx, e, k⟩ := h
  unfold tupD at e
  split at e
  · cases e
    obtain ⟨v, rfl, h⟩ := one_rp hx
    cases h with
    | @lst a ys _ ha ry =>
      obtain ⟨u, rfl, rx⟩ := vals1 r
      cases rx
      obtain ⟨its, r', pl, hz⟩ := I.list (SqL.of (vw _ _ ha))
      have hlen := r'.length
      refine call_tuple_list pl.isList (fun h' kp => ?_) (by simp only [List.size_toArray] <;> omega)
      have I1 : Inv X pins σ H { s with heap := h' } := I.kept (t' := s.toks) kp
      refine lay_tup (s := { s with heap := h' }) (t' := s.toks) I1 hz r' fun p o hp ho => ?_
      exact k _ _ _ (Nxt.upd vw hp) (.tup ⟨o, ho, upd_same⟩ (ry.mono (same_upd (vw.free hp))))
  · cases e
    obtain ⟨v, rfl, h⟩ := one_rp hx
    cases h with
    | @tup a ys _ ha ry =>
      obtain ⟨u, rfl, rx⟩ := vals1 r
      cases rx
      obtain ⟨its, r', pl, hz⟩ := I.tuple (ha.mono vw).sq
      exact call_tuple_same pl ⟨.ref a, H, I, rfl, k _ G H (Nxt.refl vw) (.tup ha ry)⟩
  · cases e
theorem call_lisD : CallR X (.type "list") (rDn X.K lisD) := CallR.imp call_list_of fun xs H Q h => by
  obtain ⟨G, ds, d, vw, hx, e, k⟩ := h
  unfold lisD at e
  split at e
  · cases e
    obtain ⟨v, rfl, h⟩ := one_rp hx
    cases h with
    | lst ha r => exact ⟨_, _, rfl, .inl (SqL.of (vw _ _ ha)), fun l hl => k _ _ _ (Nxt.upd vw hl) (.lst upd_same (r.mono (same_upd (vw.free hl))))⟩
  · cases e
    obtain ⟨v, rfl, h⟩ := one_rp hx
    cases h with
    | tup ha r => exact ⟨_, _, rfl, .inr (ha.mono vw).sq, fun l hl => k _ _ _ (Nxt.upd vw hl) (.lst upd_same (r.mono (same_upd (vw.free hl))))⟩
  · cases e
theorem call_intD : CallR X (.type "int") (rDn X.K intD) := CallR.imp call_int1 fun xs H Q h => by
  obtain ⟨G, ds, d, vw, hx, e, k⟩ := h
  unfold intD at e
  split at e
  · cases e
    obtain ⟨v, rfl, h⟩ := one_rp hx
    cases h
    exact .inl ⟨_, rfl, k _ G H (Nxt.refl vw) (.int _)⟩
  · cases e
    obtain ⟨v, rfl, h⟩ := one_rp hx
    cases h
    exact .inr ⟨_, rfl, k _ G H (Nxt.refl vw) (.int _)⟩
  · cases e
theorem call_absD : CallR X (.builtin "abs") (rDn X.K absD) := CallR.imp call_abs fun xs H Q h => by
  obtain ⟨G, ds, d, vw, hx, e, k⟩ := h
  unfold absD at e
  split at e
  · cases e
    obtain ⟨v, rfl, h⟩ := one_rp hx
    cases h
    exact ⟨_, rfl, k _ G H (Nxt.refl vw) (.int _)⟩
  · cases e
theorem call_strD : CallR X (.type "str") (rDn X.K strD) := CallR.imp SkE.call_str_str fun xs H Q h => by
  obtain ⟨G, ds, d, vw, hx, e, k⟩ := h
  unfold strD at e
  split at e
  · cases e
    obtain ⟨v, rfl, h⟩ := one_rp hx
    cases h
    exact ⟨_, rfl, k _ G H (Nxt.refl vw) (.str _)⟩
  · cases e
end
/-! ### isinstance -/
def tyN : PyData → String
  | .none => "NoneType"
  | .bool _ => "bool"
  | .int _ => "int"
  | .str _ => "str"
  | .list _ => "list"
  | .tuple _ => "tuple"
  | .dict _ => "dict"
def isiS (n a : String) : Bool := a == n || (a == "bool" && n == "int")
def isiD (n : String) (d : PyData) : Option PyData := some (.bool (isiS n (tyN d)))
def isi2D (n m : String) (d : PyData) : Option PyData := some (.bool (isiS n (tyN d) || isiS m (tyN d)))
def known : List String := ["int", "bool", "str", "tuple", "list"]
theorem kit_tab : ∀ n ∈ known, ∀ a ∈ ["NoneType", "bool", "int", "str", "list", "tuple", "dict"], L2.kitB a n = some (isiS n a) := by decide +kernel
theorem tyN_mem (d : PyData) : tyN d ∈ ["NoneType", "bool", "int", "str", "list", "tuple", "dict"] := by cases d <;> simp [tyN]
theorem Rp.tyX {K : PySem.W.Frag} {G H : Hp} (vw : Same G H) {v : V} {d : PyData} (h : Rp K G v d) : TyX K H v (.type (tyN d)) := by
  cases h with
  | non => exact .base .non
  | bl b => exact .base (.bl b)
  | int i => exact .base (.int i)
  | str x => exact .base (.str x)
  | lst ha r => exact .base (.lst (vw _ _ ha))
  | tup ha r =>
    obtain ⟨o, _, h2⟩ := ha
    exact .fTuple (vw _ _ h2)
  | dic ha r => exact .base (.dK (vw _ _ ha))
section
variable {X : Cx} {e : Expr} {t : DE} {x y : Str} {n m : String} {p q q2 q3 pos : Pos} {x1 : Nat}
theorem pd_isi (hg : Gl X "isinstance") (hm : X.mg "isinstance" = none) (he : PE X e (liE X.K t)) (gy : Gl X x) (my : X.mg x = none) (by_ : bootBuiltins x = some (.type n)) (kn : n ∈ known) (hn : x ≠ "__name__" := by decide) (hd : (x == ("__debug__" : Str)) = false := by decide)
    (hs : starEach [e, .Name x q] X.env = (false, eval e X.env) :: starEach [.Name x q] X.env := by rfl) :
    PE X (.Call (.Name "isinstance" p) [e, .Name x q] [] pos) (liE X.K (d1 (isiD n) t)) :=
  PE.imp (pe_callB call_isi hg hm (by decide +kernel) (pa_cons he (pa_cons (pe_bltn (v := .ty n) gy my by_ rfl hn hd) pa_nil) hs) (by decide) (by decide) hs) fun σ H Q h => by
    obtain ⟨G, ρ, d, vw, s, e, k⟩ := h
    unfold d1 at e
    cases h1 : t ρ with
    | none => rw [h1] at e; cases e
    | some z =>
      rw [h1] at e
      cases e
      refine ⟨G, ρ, z, vw, s, h1, fun v G1 H1 n1 r1 => ?_⟩
      exact ⟨v, .ty n, _, _, _, rfl, .ty n, r1.tyX n1.v, L2.kit_ty (kit_tab n kn _ (tyN_mem z)), k _ G1 H1 n1 (.bl _)⟩
theorem pd_isi2 (hg : Gl X "isinstance") (hm : X.mg "isinstance" = none) (he : PE X e (liE X.K t)) (gy : Gl X x) (my : X.mg x = none) (by_ : bootBuiltins x = some (.type n)) (gz : Gl X y) (mz : X.mg y = none) (bz : bootBuiltins y = some (.type m)) (kn : n ∈ known) (km : m ∈ known)
    (hn : x ≠ "__name__" := by decide) (hd : (x == ("__debug__" : Str)) = false := by decide) (hn2 : y ≠ "__name__" := by decide) (hd2 : (y == ("__debug__" : Str)) = false := by decide)
    (hs : starEach [e, .Tuple [.Name x q, .Name y q2] x1 q3] X.env = (false, eval e X.env) :: starEach [.Tuple [.Name x q, .Name y q2] x1 q3] X.env := by rfl) :
    PE X (.Call (.Name "isinstance" p) [e, .Tuple [.Name x q, .Name y q2] x1 q3] [] pos) (liE X.K (d1 (isi2D n m) t)) :=
  PE.imp (pe_callB call_isiT hg hm (by decide +kernel) (pa_cons he (pa_cons (pe_tup (pa_cons (pe_bltn (v := .ty n) gy my by_ rfl hn hd) (pa_cons (pe_bltn (v := .ty m) gz mz bz rfl hn2 hd2) pa_nil))) pa_nil) hs) (by decide) (by decide) hs) fun σ H Q h => by
    obtain ⟨G, ρ, d, vw, s, e, k⟩ := h
    unfold d1 at e
    cases h1 : t ρ with
    | none => rw [h1] at e; cases e
    | some z =>
      rw [h1] at e
      cases e
      refine ⟨G, ρ, z, vw, s, h1, fun v G1 H1 n1 r1 => ⟨by show 2 ≤ sizeLine; decide, fun tp htp => ?_⟩⟩
      have n2 : Nxt G1 H1 G1 (upd H1 tp (.tup [.ty n, .ty m])) := Nxt.heap n1.v (same_upd htp)
      refine ⟨v, tp, [.ty n, .ty m], _, [.type n, .type m], _, rfl, upd_same, .cons (.ty n) (.cons (.ty m) .nil), r1.tyX n2.v, ?_, k _ G1 _ (n1.trans n2) (.bl _)⟩
      have e1 := L2.kit_ty (K := X.K) (kit_tab n kn _ (tyN_mem z))
      have e2 := L2.kit_ty (K := X.K) (kit_tab m km _ (tyN_mem z))
      refine L2.kitAny_cons e1 (fun h0 => ?_) (fun h0 => by rw [h0, Bool.true_or])
      refine L2.kitAny_cons e2 (fun h3 => ?_) (fun h3 => by rw [h3, Bool.or_true])
      rw [h0, h3]
      exact L2.kitAny_nil
end
/-! ### the methods of tuples -/
def tBMT (r : V → List V → Hp → VK → Prop) (to : TE) (t : TA) : TE := fun σ H Q => to σ H fun x H1 => (∃ a xs, x = V.ref a ∧ TupF H1 a xs) ∧ t σ H1 fun ys H2 => r x ys H2 Q
def idxS : List PyData → Str → Nat → Option Nat
  | [], _, _ => none
  | .str y :: r, x, i => if y = x then some i else idxS r x (i + 1)
  | _, _, _ => none
def indexD : PyData → PyData → Option PyData
  | .tuple ds, .str x => match ds.all (fun d => match d with | .str _ => true | _ => false), idxS ds x 0 with
    | true, some i => some (.int (i : Nat))
    | _, _ => none
  | _, _ => none
theorem all_strs {ds : List PyData} (h : ds.all (fun d => match d with | .str _ => true | _ => false) = true) : ∃ xs : List Str, ds = xs.map PyData.str := by
  induction ds with
  | nil => exact ⟨[], rfl⟩
  | cons d r ih =>
    rw [List.all_cons, Bool.and_eq_true] at h
    obtain ⟨xs, e⟩ := ih h.2
    cases d <;> first
      | (rename_i x; exact ⟨x :: xs, by rw [e, List.map_cons]⟩)
      | (exact absurd h.1 Bool.false_ne_true)
theorem idxS_spec {x : Str} : ∀ {xs : List Str} {i j : Nat}, idxS (xs.map PyData.str) x i = some j → ∃ k, j = i + k ∧ xs[k]? = some x ∧ ∀ m, m < k → xs[m]? ≠ some x
  | [], _, _, h => by cases h
  | y :: r, i, j, h => by
    rw [List.map_cons] at h
    unfold idxS at h
    by_cases c : y = x
    · rw [if_pos c] at h
      cases h
      exact ⟨0, rfl, by rw [c] <;> rfl, fun m hm => absurd hm (Nat.not_lt_zero m)⟩
    · rw [if_neg c] at h
      obtain ⟨k, e, h1, h2⟩ := idxS_spec h
      refine ⟨k + 1, by omega, by simpa using h1, fun m hm => ?_⟩
      cases m with
      | zero =>
        intro z
        simp at z
        exact c z
      | succ m => simpa using h2 m (by omega)
section
variable {X : Cx} {o e : Expr} {es : List Expr} {to : TE} {t : TA} {name : Str} {apos cpos : Pos} {id : String} {r : V → List V → Hp → VK → Prop}
theorem pe_bmT (slot : Slot "tuple" name id) (hty : typeOf (.builtin id) = pure (.type "method_descriptor")) (hm : MtR X id r) (ho : PE X o to) (ha : PA X (e :: es) t)
    (hbase : attributeBase o name X.env (eval o X.env) = eval o X.env := by rfl)
    (hfew : ((backTo cpos (starEach (e :: es) X.env)).all (fun x => !x.1) && (backToKw cpos (keywordEach [] X.env)).all (fun x => x.1.isSome)
      && decide ((e :: es).length + ([] : List Keyword).length + (if ([] : List Keyword).isEmpty then 0 else 1) < 30)) = true := by rfl)
    (hline : (apos.endLine == cpos.line) = true := by rfl) (hs : starEach (e :: es) X.env = (false, eval e X.env) :: starEach es X.env := by rfl) (hplain : (backTo cpos (starEach es X.env)).any (·.1) = false := by rfl) :
    PE X (.Call (.Attribute o name apos) (e :: es) [] cpos) (tBMT r to t) := by
  refine ⟨fun pins s σ H Q I h => ?_⟩
  refine wpAny_Call_method_late hbase hfew hline rfl (thn (ho.run pins s σ H _ I h) fun v s1 ⟨x, H1, I1, r1, ty, q1⟩ => ?_)
  obtain ⟨a, xs, rfl, ob, hd, hob⟩ := ty
  obtain ⟨its, _, pl, _⟩ := I1.tuple (TupF.sq ⟨ob, hd, hob⟩)
  have hget : s1.heap.get? a = some ob := (I1.hok a _ hob).1
  cases r1
  refine ⟨"tuple", id, PySem.F.plainAttrs_tuple, slot, hty, pl.typeIs, fun b hb => by cases hb; exact ⟨ob, hget, hd⟩, ?_⟩
  have hA := ha.run cpos pins s1 σ H1 _ I1 q1
  rw [hs] at hA ⊢
  refine Calls.callWith_builtin (by show (false || (backTo cpos (starEach es X.env)).any (·.1)) = false; rw [hplain] <;> rfl) (Calls.evalArgs_plain ?_)
  exact thn hA fun us s2 ⟨vs, H2, I2, r2, q2⟩ => hm pins s2 σ H2 (.ref a) vs (.ref a) us Q I2 rfl r2 q2
theorem pd_index {t u : DE} (ho : PE X o (liE X.K t)) (he : PE X e (liE X.K u)) (hbase : attributeBase o "index" X.env (eval o X.env) = eval o X.env := by rfl)
    (hs : starEach [e] X.env = (false, eval e X.env) :: starEach [] X.env := by rfl)
    (hline : (apos.endLine == cpos.line) = true := by rfl) : PE X (.Call (.Attribute o "index" apos) [e] [] cpos) (liE X.K (d2 indexD t u)) :=
  PE.imp (pe_bmT PySem.F.slot_tuple_index PySem.F.type_tuple_index L2.mt_tup_index ho (pa_cons he pa_nil hs) hbase (by rw [hs] <;> rfl) hline hs (by rfl)) fun σ H Q h => by
    obtain ⟨G, ρ, d, vw, s, e, k⟩ := h
    unfold d2 at e
    cases h1 : t ρ with
    | none => rw [h1] at e; cases e
    | some a =>
      cases h2 : u ρ with
      | none => rw [h1, h2] at e; cases e
      | some b =>
        rw [h1, h2] at e
        have e' : indexD a b = some d := e
        unfold indexD at e'
        split at e'
        · rename_i ds x
          generalize ha : ds.all (fun d => match d with | .str _ => true | _ => false) = al at e'
          generalize hi : idxS ds x 0 = oi at e'
          split at e'
          · rename_i i
            cases e'
            obtain ⟨xs, rfl⟩ := all_strs ha
            refine ⟨G, ρ, _, vw, s, h1, fun v G1 H1 n1 r1 => ?_⟩
            cases r1 with
            | tup hx r =>
              have z := RpAll.of_strs r
              subst z
              refine ⟨⟨_, _, rfl, hx.mono n1.v⟩, G1, ρ, _, n1.v, s.mono n1.g, h2, fun w G2 H2 n2 r2 => ?_⟩
              cases r2
              obtain ⟨j, ej, h3, h4⟩ := idxS_spec hi
              rw [Nat.zero_add] at ej
              subst ej
              exact ⟨_, xs, x, i, rfl, rfl, ((hx.mono n2.g).mono n2.v).sq, h3, h4, k _ G2 H2 (n1.trans n2) (.int _)⟩
          · cases e'
        · cases e'
end
end Od
end
section
set_option maxHeartbeats 2000000
/-! OdStm: targets, statements, loops, comprehensions of the data layer. -/
namespace Od
open PySem PySem.Spec PyProof.Rows L2
/-! ### targets -/
theorem Agr.refl (tgs : List Nat) (σ : L2.St) : Agr tgs σ σ := ⟨rfl, fun _ _ => rfl⟩
theorem Agr.set {tgs : List Nat} {i : Nat} {σ : L2.St} {o : Option V} (h : i ∈ tgs) : Agr tgs σ (σ.set i o) := ⟨List.length_set, fun j hj => List.getElem?_set_ne fun e => hj (by rw [← e]; exact h)⟩
theorem Agr.trans {tgs : List Nat} {σ σ1 σ2 : L2.St} (a : Agr tgs σ σ1) (b : Agr tgs σ1 σ2) : Agr tgs σ σ2 := ⟨b.1.trans a.1, fun j hj => (b.2 j hj).trans (a.2 j hj)⟩
theorem Agr.mono {tgs tgs' : List Nat} {σ σ1 : L2.St} (a : Agr tgs σ σ1) (h : ∀ i ∈ tgs, i ∈ tgs') : Agr tgs' σ σ1 := ⟨a.1, fun j hj => a.2 j fun m => hj (h j m)⟩
theorem wipe_in {σ : L2.St} {j : Nat} : ∀ {vs : List Nat}, j ∈ vs → (L2.wipe σ vs)[j]? = if j < σ.length then some none else none
  | v :: vs, h => by
    unfold L2.wipe
    by_cases e : v = j
    · subst e
      by_cases hl : v < σ.length
      · rw [List.getElem?_set_self (by rw [wipe_length]; exact hl), if_pos hl]
      · rw [if_neg hl, List.getElem?_eq_none_iff.mpr (by rw [List.length_set, wipe_length]; omega)]
    · rw [List.getElem?_set_ne e]
      rcases List.mem_cons.mp h with q | q
      · exact absurd q.symm e
      · exact wipe_in q
theorem wipe_agr {tgs vs : List Nat} {σ σ2 : L2.St} (a : Agr tgs (L2.wipe σ vs) σ2) (h : ∀ i ∈ tgs, i ∈ vs) : L2.wipe σ2 vs = L2.wipe σ vs := by
  apply List.ext_getElem?
  intro j
  have hl : σ2.length = σ.length := by rw [a.1, wipe_length]
  by_cases m : j ∈ vs
  · rw [wipe_in m, wipe_in m, hl]
  · rw [wipe_out m, a.2 j fun q => m (h j q)]
def tgN (i : Nat) : PyData → DEnv → Option DEnv := fun d ρ => some (ρ.set i (some d))
def setAll : List Nat → List PyData → DEnv → Option DEnv
  | [], [], ρ => some ρ
  | i :: is, d :: ds, ρ => setAll is ds (ρ.set i (some d))
  | _, _, _ => none
def tgT (is : List Nat) : PyData → DEnv → Option DEnv := fun d ρ => match d with
  | .tuple ds => setAll is ds ρ
  | _ => none
theorem setAll_len : ∀ {is : List Nat} {ds : List PyData} {ρ ρ' : DEnv}, setAll is ds ρ = some ρ' → ds.length = is.length
  | [], [], _, _, _ => rfl
  | i :: is, d :: ds, ρ, ρ', e => congrArg (· + 1) (setAll_len (is := is) (ds := ds) e)
  | [], _ :: _, _, _, e => by cases e
  | _ :: _, [], _, _, e => by cases e
section
variable {X : Cx} {pos : Pos}
theorem pdg_name {i : Nat} {x : Str} (hN : X.N.Nodup) (hi : X.N[i]? = some x) (hx : Loc X.env.scope x) (hf : X.fn x = true ∨ X.env.scope.names.lookup x = some .local := by first | exact .inl rfl | exact .inr rfl | assumption) : PG X (.Name x pos) (liG X.K (Rp X.K) [i] (tgN i)) :=
  PG.imp (pg_name hN hi hx hf) fun v σ H Q ⟨G, ρ, d, ρ', vw, s, r, e, k⟩ => by
    cases e
    exact k _ (s.set r) (Agr.set (List.mem_singleton.mpr rfl))
theorem pdgs_nil : PGs X [] (liGs X.K [] (setAll [])) := PGs.imp pgs_nil fun vs σ H Q ⟨G, ρ, ds, ρ', vw, s, r, e, k⟩ => by
  cases r with
  | nil =>
    cases e
    exact ⟨rfl, k σ s (Agr.refl _ _)⟩
  | cons _ _ => cases e
theorem pdgs_cons {i : Nat} {is : List Nat} {e : Expr} {es : List Expr} (h1 : PG X e (liG X.K (Rp X.K) [i] (tgN i))) (h2 : PGs X es (liGs X.K is (setAll is)))
    (hs : (assignEach (e :: es) X.env).map (·.2) = assign e X.env :: (assignEach es X.env).map (·.2) := by rfl) : PGs X (e :: es) (liGs X.K (i :: is) (setAll (i :: is))) :=
  PGs.imp (pgs_cons h1 h2 hs) fun vs σ H Q ⟨G, ρ, ds, ρ', vw, s, r, e, k⟩ => by
    cases r with
    | nil => cases e
    | cons r rr =>
      refine ⟨_, _, rfl, G, ρ, _, _, vw, s, r, rfl, fun σ1 s1 a1 => ⟨G, _, _, ρ', vw, s1, rr, e, fun σ2 s2 a2 => k σ2 s2 ?_⟩⟩
      exact (a1.mono fun j hj => by rw [List.mem_singleton.mp hj]; exact List.mem_cons_self).trans (a2.mono fun j hj => List.mem_cons_of_mem _ hj)
theorem pdg_tupW {is : List Nat} {es : List Expr} {k : Nat} (hc : X.calm = true) (h : PGs X es (liGs X.K is (setAll is))) (hn : (assignEach es X.env).length = is.length := by rfl) (hst : (assignEach es X.env).findIdx? (·.1) = none := by rfl) :
    PG X (.Tuple es k pos) (liG X.K (WRp X.K) is (tgT is)) := PG.imp (pg_tup hc h hn hst) fun v σ H Q ⟨G, ρ, d, ρ', vw, s, r, e, q⟩ => by
  rcases r with r | ⟨a, xs, ds, rfl, ha, hr, rfl⟩
  · unfold tgT at e
    split at e
    · cases r with
      | tup ha hr => exact ⟨_, _, rfl, (ha.mono vw).sq, by rw [hr.length]; exact setAll_len e, G, ρ, _, ρ', vw, s, hr, e, q⟩
    · cases e
  · exact ⟨_, _, rfl, SqT.of (vw _ _ ha), by rw [hr.length]; exact setAll_len e, G, ρ, _, ρ', vw, s, hr, e, q⟩
theorem pdg_tup {is : List Nat} {es : List Expr} {k : Nat} (hc : X.calm = true) (h : PGs X es (liGs X.K is (setAll is))) (hn : (assignEach es X.env).length = is.length := by rfl) (hst : (assignEach es X.env).findIdx? (·.1) = none := by rfl) :
    PG X (.Tuple es k pos) (liG X.K (Rp X.K) is (tgT is)) := PG.imp (pdg_tupW hc h hn hst) fun v σ H Q ⟨G, ρ, d, ρ', vw, s, r, e, q⟩ => ⟨G, ρ, d, ρ', vw, s, .inl r, e, q⟩
end
/-! ### small statements -/
def dAsg (i : Nat) (t : DE) : DS := fun ρ => match t ρ with
  | some d => some (.nx (ρ.set i (some d)))
  | none => none
def dAsgG (tg : PyData → DEnv → Option DEnv) (t : DE) : DS := fun ρ => match t ρ with
  | some d => match tg d ρ with
    | some ρ' => some (.nx ρ')
    | none => none
  | none => none
def dRet (t : DE) : DS := fun ρ => match t ρ with
  | some d => some (.rt d)
  | none => none
def dNext : DS := fun ρ => some (.nx ρ)
def dSeq (t u : DS) : DS := fun ρ => match t ρ with
  | some (.nx ρ') => u ρ'
  | o => o
def dIfS (c : DT) (t u : DS) : DS := fun ρ => match c ρ with
  | some true => t ρ
  | some false => u ρ
  | none => none
def dDrop (t : DE) : DS := fun ρ => match t ρ with
  | some _ => some (.nx ρ)
  | none => none
def dNever : DS := fun _ => none
def forGo (tg : PyData → DEnv → Option DEnv) (tb : DS) : List PyData → DEnv → Option Out
  | [], ρ => some (.nx ρ)
  | d :: r, ρ => match tg d ρ with
    | some ρ1 => match tb ρ1 with
      | some (.nx ρ2) => forGo tg tb r ρ2
      | some (.ct ρ2) => forGo tg tb r ρ2
      | some (.bk ρ2) => some (.nx ρ2)
      | some (.rt d) => some (.rt d)
      | none => none
    | none => none
def dFor (ti : DA) (tg : PyData → DEnv → Option DEnv) (tb : DS) : DS := fun ρ => match ti ρ with
  | some ds => forGo tg tb ds ρ
  | none => none
section
variable {X : Cx} {F : List Nat} {pos : Pos} {st : Stmt} {rest : List Stmt} {e : Expr} {t : DE} {ts us : DS}
theorem pds_nil : PSs X [] (liS X.K F dNext) := PSs.imp pss_nil fun D σ H ⟨G, ρ, o, vw, s, e, k⟩ => by
  cases e
  exact k σ G H (Nxt.refl vw) s (Frm.refl F σ)
theorem pds_pass : PS X (.Pass pos) (liS X.K F dNext) := PS.imp ps_pass fun D σ H ⟨G, ρ, o, vw, s, e, k⟩ => by
  cases e
  exact k σ G H (Nxt.refl vw) s (Frm.refl F σ)
theorem pds_never : PS X st (liS X.K F dNever) := PS.imp ps_never fun D σ H ⟨G, ρ, o, vw, s, e, k⟩ => by cases e
theorem pds_cons (h1 : PS X st (liS X.K F ts)) (h2 : PSs X rest (liS X.K F us)) : PSs X (st :: rest) (liS X.K F (dSeq ts us)) := PSs.imp (pss_cons h1 h2) fun D σ H ⟨G, ρ, o, vw, s, e, k⟩ => by
  unfold dSeq at e
  split at e
  · rename_i ρ' h
    exact ⟨G, ρ, _, vw, s, h, fun σ' G' H' n s' f' => ⟨G', ρ', o, n.v, s', e, k.next n f'⟩⟩
  · rename_i h
    cases o with
    | nx ρ' => exact absurd e (h ρ')
    | rt d => exact ⟨G, ρ, _, vw, s, e, k⟩
    | bk d => exact ⟨G, ρ, _, vw, s, e, k⟩
    | ct d => exact ⟨G, ρ, _, vw, s, e, k⟩
theorem pds_one (h1 : PS X st (liS X.K F ts)) : PSs X [st] (liS X.K F ts) := pss_one h1
theorem pds_set {i : Nat} {x : Str} {pos' : Pos} (hN : X.N.Nodup) (hi : X.N[i]? = some x) (hx : Loc X.env.scope x) (he : PE X e (liE X.K t)) (hs : swapsWith e (some (.Name x pos')) pos.line X.env = pure false := by rfl) (hf : X.fn x = true ∨ X.env.scope.names.lookup x = some .local := by first | exact .inl rfl | exact .inr rfl | assumption) (hF : i ∉ F := by decide) :
    PS X (.Assign [.Name x pos'] e pos) (liS X.K F (dAsg i t)) := PS.imp (ps_set hN hi hx he hs hf) fun D σ H ⟨G, ρ, o, vw, s, e, k⟩ => by
  unfold dAsg at e
  split at e
  · rename_i d h
    cases e
    exact ⟨G, ρ, d, vw, s, h, fun v G1 H1 n r => k _ G1 H1 n ((s.mono n.g).set r) (Frm.set hF)⟩
  · cases e
theorem pds_asgG {tg : Expr} {tgs : List Nat} {tb : PyData → DEnv → Option DEnv} (he : PE X e (liE X.K t)) (hg : PG X tg (liG X.K (Rp X.K) tgs tb)) (hs : swapsWithSole [tg] e pos.line X.env = pure false := by rfl) (hw : swappedStores [tg] e X.env = pure none := by rfl)
    (h1 : (assignEach [tg] X.env).map (·.2) = [assign tg X.env] := by rfl) (hF : ∀ i ∈ tgs, i ∉ F := by decide) : PS X (.Assign [tg] e pos) (liS X.K F (dAsgG tb t)) := PS.imp (ps_asg he hg hs hw h1) fun D σ H ⟨G, ρ, o, vw, s, e, k⟩ => by
  unfold dAsgG at e
  split at e
  · rename_i d h
    split at e
    · rename_i ρ' h'
      cases e
      exact ⟨G, ρ, d, vw, s, h, fun v G1 H1 n r => ⟨G1, ρ, d, ρ', n.v, s.mono n.g, r, h', fun σ' s' a' => k σ' G1 H1 n s' (Frm.of_agr a' hF)⟩⟩
    · cases e
  · cases e
theorem pds_ret (he : PE X e (liE X.K t)) : PS X (.Return (some e) pos) (liS X.K F (dRet t)) := PS.imp (ps_ret he) fun D σ H ⟨G, ρ, o, vw, s, e, k⟩ => by
  unfold dRet at e
  split at e
  · rename_i d h
    cases e
    exact ⟨G, ρ, d, vw, s, h, fun v G1 H1 n r => k v G1 H1 n r⟩
  · cases e
theorem pds_expr (he : PE X e (liE X.K t)) (hs : swapsWith e none pos.line X.env = pure false := by rfl) : PS X (.Expr e pos) (liS X.K F (dDrop t)) := PS.imp (ps_expr he hs) fun D σ H ⟨G, ρ, o, vw, s, e, k⟩ => by
  unfold dDrop at e
  split at e
  · rename_i d h
    cases e
    exact ⟨G, ρ, d, vw, s, h, fun v G1 H1 n r => k σ G1 H1 n (s.mono n.g) (Frm.refl F σ)⟩
  · cases e
theorem pds_if {c : Expr} {a b : List Stmt} {tc : DT} (hc : PT X c (liT X.K tc)) (ha : PSs X a (liS X.K F ts)) (hb : PSs X b (liS X.K F us)) : PS X (.If c a b pos) (liS X.K F (dIfS tc ts us)) := PS.imp (ps_if hc ha hb) fun D σ H ⟨G, ρ, o, vw, s, e, k⟩ => by
  unfold dIfS at e
  split at e
  · rename_i h
    exact ⟨G, ρ, true, vw, s, h, fun G1 H1 n => iteT ⟨G1, ρ, o, n.v, s.mono n.g, e, k.next n (Frm.refl F σ)⟩⟩
  · rename_i h
    exact ⟨G, ρ, false, vw, s, h, fun G1 H1 n => iteF ⟨G1, ρ, o, n.v, s.mono n.g, e, k.next n (Frm.refl F σ)⟩⟩
  · cases e
/-! ### for -/
theorem for_data {K : PySem.W.Frag} {F : List Nat} {R : Hp → V → PyData → Prop} {J : It} {ds : List PyData} {tgs : List Nat} {tg : PyData → DEnv → Option DEnv} {tb : DS} {D : Ends} {σ : L2.St} {G H : Hp} {ρ : DEnv} {o : Out} (hF : ∀ i ∈ tgs, i ∉ F) (w : WalkD R J ds G) (vw : Same G H) (s : Sl K G σ ρ) (e : forGo tg tb ds ρ = some o) (k : OutK K F G H σ D o) :
    ∃ W : Nat → Nat → L2.St → Hp → Prop, (∃ m, W 0 m σ H) ∧ ∀ i m σ H, W i m σ H →
      (J.stop i H ∧ D.nx σ H) ∨ (J.go i H ∧ ∃ N : L2.St → Hp → Prop, (∀ σ' H', N σ' H' → ∃ m', m' < m ∧ W (i + 1) m' σ' H') ∧ ∀ x H', J.yld i H x H' → liG K R tgs tg x σ H' fun σ2 H2 => liS K F tb { D with nx := N, ct := N, bk := D.nx } σ2 H2) := by
  refine ⟨fun i m σ H => m = ds.length - i ∧ i ≤ ds.length ∧ ∃ G1 ρ o, Same G G1 ∧ Same G1 H ∧ Sl K G1 σ ρ ∧ forGo tg tb (ds.drop i) ρ = some o ∧ OutK K F G1 H σ D o, ⟨_, rfl, Nat.zero_le _, G, ρ, o, Same.refl _, vw, s, e, k⟩, ?_⟩
  rintro i m σ H ⟨rfl, hi, G1, ρ, o, g1, v1, s1, e1, k1⟩
  by_cases hlt : i < ds.length
  · refine .inr ⟨w.goes i H hlt (g1.trans v1), fun σ' H' => ∃ G2 ρ o, Same G G2 ∧ Same G2 H' ∧ Sl K G2 σ' ρ ∧ forGo tg tb (ds.drop (i + 1)) ρ = some o ∧ OutK K F G2 H' σ' D o, fun σ' H' q => ⟨ds.length - (i + 1), by omega, rfl, hlt, q⟩, fun x H' y => ?_⟩
    have hd : ds[i]? = some ds[i] := List.getElem?_eq_getElem hlt
    obtain ⟨G2, n2, r2⟩ := w.yields i H x H' ds[i] G1 hd g1 v1 y
    rw [List.drop_eq_getElem_cons hlt] at e1
    unfold forGo at e1
    cases h1 : tg ds[i] ρ with
    | none => rw [h1] at e1; cases e1
    | some ρ1 =>
      rw [h1] at e1
      dsimp only at e1
      refine ⟨G2, ρ, ds[i], ρ1, n2.v, s1.mono n2.g, r2, h1, fun σ2 s2 a2 => ?_⟩
      have f2 := Frm.of_agr a2 hF
      cases h2 : tb ρ1 with
      | none => rw [h2] at e1; cases e1
      | some o2 =>
        rw [h2] at e1
        refine ⟨G2, ρ1, o2, n2.v, s2, h2, ?_⟩
        cases o2 with
        | nx ρ2 => exact fun σ3 G3 H3 n3 s3 f3 => ⟨G3, ρ2, o, (g1.trans n2.g).trans n3.g, n3.v, s3, e1, k1.next (n2.trans n3) (f2.trans f3)⟩
        | ct ρ2 => exact fun σ3 G3 H3 n3 s3 f3 => ⟨G3, ρ2, o, (g1.trans n2.g).trans n3.g, n3.v, s3, e1, k1.next (n2.trans n3) (f2.trans f3)⟩
        | bk ρ2 =>
          cases e1
          exact fun σ3 G3 H3 n3 s3 f3 => k1 σ3 G3 H3 (n2.trans n3) s3 (f2.trans f3)
        | rt d =>
          cases e1
          exact fun v G3 H3 n3 r3 => k1 v G3 H3 (n2.trans n3) r3
  · have ei : i = ds.length := by omega
    subst ei
    rw [List.drop_length] at e1
    cases e1
    exact .inl ⟨w.stops H (g1.trans v1), k1 σ G1 H (Nxt.refl v1) s1 (Frm.refl F σ)⟩
theorem pds_for {R : Hp → V → PyData → Prop} {iter tg : Expr} {body : List Stmt} {ti : DA} {tgs : List Nat} {g : PyData → DEnv → Option DEnv} (hp : PassesOwn (model X.prog X.w) X.A X.env X.xe) (hc : X.calm = true) (hi : PI X tg iter (liI X.K R ti)) (hg : PG X tg (liG X.K R tgs g)) (hb : PSs X body (liS X.K F ts))
    (hs : ∀ x, foldedSetIterable iter X.env x = pure x := by intro _; rfl) (hF : ∀ i ∈ tgs, i ∉ F := by decide) : PS X (.For tg iter body [] pos) (liS X.K F (dFor ti g ts)) := PS.imp (ps_for hp hc hi hg hb hs) fun D σ H ⟨G, ρ, o, vw, s, e, k⟩ => by
  unfold dFor at e
  split at e
  · rename_i ds h
    exact ⟨G, ρ, ds, vw, s, h, fun J G1 H1 n w => for_data hF w n.v (s.mono n.g) e (k.next n (Frm.refl F σ))⟩
  · cases e
end
/-! ### comprehensions -/
def lcGo (tg : PyData → DEnv → Option DEnv) (tt : DT) (te : DE) (ρ : DEnv) : List PyData → Option (List PyData)
  | [] => some []
  | d :: r => match tg d ρ with
    | some ρ1 => match tt ρ1 with
      | some true => match te ρ1 with
        | some y => match lcGo tg tt te ρ r with
          | some ys => some (y :: ys)
          | none => none
        | none => none
      | some false => lcGo tg tt te ρ r
      | none => none
    | none => none
def dLc (ti : DA) (tg : PyData → DEnv → Option DEnv) (tt : DT) (te : DE) (vs : List Nat) : DE := fun ρ => match ti ρ with
  | some ds => if ds.length ≤ 1000000 then match lcGo tg tt te (wipeE ρ vs) ds with
    | some ys => some (.list ys)
    | none => none
    else none
  | none => none
def dYes : DT := fun _ => some true
theorem lc_data {K : PySem.W.Frag} {R : Hp → V → PyData → Prop} {J : It} {ds ys : List PyData} {tgs vs : List Nat} {tg : PyData → DEnv → Option DEnv} {tt : DT} {te : DE} {σ : L2.St} {G H : Hp} {ρ : DEnv} {Q : VK} {D : Addr} (w : WalkD R J ds G) (vw : Same G H) (s : Sl K G σ ρ) (hD : H D = none)
    (hv : ∀ i ∈ tgs, i ∈ vs) (hz : ds.length ≤ 1000000) (e : lcGo tg tt te (wipeE ρ vs) ds = some ys) (k : ∀ v G' H', Nxt G H G' H' → Rp K G' v (.list ys) → Q v H') :
    ∃ W : Nat → Nat → Hp → Prop, (∃ m, W 0 m (upd H D (.lst []))) ∧ ∀ i m H, W i m H →
      (J.stop i H ∧ Q (.ref D) H) ∨ (J.go i H ∧ ∃ Nx : Hp → Prop, (∀ H', Nx H' → ∃ m', m' < m ∧ W (i + 1) m' H') ∧ ∀ x H', J.yld i H x H' → liG K R tgs tg x (L2.wipe σ vs) H' fun σ2 H2 => L2.wipe σ2 vs = L2.wipe σ vs ∧ liT K tt σ2 H2 fun b H3 =>
        if b = true then liE K te σ2 H3 fun y H4 => ∃ acc, H4 D = some (.lst acc) ∧ acc.length < sizeLine ∧ Nx (upd H4 D (.lst (acc ++ [y]))) else Nx H3) := by
  have vw0 : Same G (upd H D (.lst [])) := vw.trans (same_upd hD)
  refine ⟨fun i m H' => m = ds.length - i ∧ i ≤ ds.length ∧ ∃ G1 acc zs rs, Nxt G H G1 H' ∧ G1 D = none ∧ H' D = some (.lst acc) ∧ acc.length ≤ i ∧ RpAll K G1 acc zs ∧ lcGo tg tt te (wipeE ρ vs) (ds.drop i) = some rs ∧ ys = zs ++ rs,
    ⟨_, rfl, Nat.zero_le _, G, [], [], ys, Nxt.heap vw (same_upd hD), vw.free hD, upd_same, Nat.le_refl _, .nil, e, rfl⟩, ?_⟩
  rintro i m H1 ⟨rfl, hi, G1, acc, zs, rs, n1, gD, hD1, hl, ra, e1, ey⟩
  by_cases hlt : i < ds.length
  · refine .inr ⟨w.goes i H1 hlt (n1.g.trans n1.v), fun H' => ∃ G1 acc zs rs, Nxt G H G1 H' ∧ G1 D = none ∧ H' D = some (.lst acc) ∧ acc.length ≤ i + 1 ∧ RpAll K G1 acc zs ∧ lcGo tg tt te (wipeE ρ vs) (ds.drop (i + 1)) = some rs ∧ ys = zs ++ rs,
      fun H' q => ⟨ds.length - (i + 1), by omega, rfl, hlt, q⟩, fun x H2 y => ?_⟩
    have hd : ds[i]? = some ds[i] := List.getElem?_eq_getElem hlt
    obtain ⟨G2, n2, r2⟩ := w.yields i H1 x H2 ds[i] G1 hd n1.g n1.v y
    rw [List.drop_eq_getElem_cons hlt] at e1
    unfold lcGo at e1
    cases h1 : tg ds[i] (wipeE ρ vs) with
    | none => rw [h1] at e1; cases e1
    | some ρ1 =>
      rw [h1] at e1
      dsimp only at e1
      refine ⟨G2, wipeE ρ vs, ds[i], ρ1, n2.v, (s.mono (n1.g.trans n2.g)).wipe vs, r2, h1, fun σ2 s2 a2 => ⟨wipe_agr a2 hv, ?_⟩⟩
      cases h2 : tt ρ1 with
      | none => rw [h2] at e1; cases e1
      | some b =>
        rw [h2] at e1
        refine ⟨G2, ρ1, b, n2.v, s2, h2, fun G3 H3 n3 => ?_⟩
        cases b with
        | false =>
          refine iteF ⟨G3, acc, zs, rs, (n1.trans n2).trans n3, n3.mask (n2.mask gD hD1) (n2.h _ _ hD1), n3.h _ _ (n2.h _ _ hD1), by omega, ra.mono (n2.g.trans n3.g), e1, ey⟩
        | true =>
          have e2 : (match te ρ1 with
            | some y => match lcGo tg tt te (wipeE ρ vs) (ds.drop (i + 1)) with
              | some ys => some (y :: ys)
              | none => none
            | none => none) = some rs := e1
          cases h3 : te ρ1 with
          | none => rw [h3] at e2; cases e2
          | some yd =>
            cases h4 : lcGo tg tt te (wipeE ρ vs) (ds.drop (i + 1)) with
            | none => rw [h3, h4] at e2; cases e2
            | some rs' =>
              rw [h3, h4] at e2
              cases e2
              have hD3 := n3.h _ _ (n2.h _ _ hD1)
              have gD3 := n3.mask (n2.mask gD hD1) (n2.h _ _ hD1)
              refine iteT ⟨G3, ρ1, yd, n3.v, s2.mono n3.g, h3, fun v G4 H4 n4 r4 => ⟨acc, n4.h _ _ hD3, ?_, ?_⟩⟩
              · exact Nat.lt_of_lt_of_le (show acc.length < 1000001 by omega) (by rw [sizeLine_eq]; decide)
              · have gD4 := n4.mask gD3 hD3
                have n5 := ((n1.trans n2).trans n3).trans n4
                refine ⟨G4, acc ++ [v], zs ++ [yd], rs', ⟨fun b u q => ?_, n5.g, same_mask n5.v gD4, n5.new⟩, gD4, upd_same, by rw [List.length_append]; show acc.length + 1 ≤ i + 1; omega, (ra.mono (n2.g.trans (n3.g.trans n4.g))).append (.cons r4 .nil), rfl, by rw [ey, List.append_assoc]; rfl⟩
                rw [upd_ne (ne_of_none q hD)]
                exact n5.h b u q
  · have ei : i = ds.length := by omega
    subst ei
    rw [List.drop_length] at e1
    cases e1
    rw [List.append_nil] at ey
    subst ey
    refine .inl ⟨w.stops H1 (n1.g.trans n1.v), k _ (upd G1 D (.lst acc)) H1 ⟨n1.h, n1.g.trans (same_upd gD), fun b u q => ?_, fun b u q => ?_⟩ (.lst upd_same (ra.mono (same_upd gD)))⟩
    · by_cases hb : b = D
      · subst hb
        rw [upd_same] at q
        rw [hD1]
        exact q
      · rw [upd_ne hb] at q
        exact n1.v b u q
    · by_cases hb : b = D
      · subst hb
        exact .inr hD
      · rw [upd_ne hb] at q
        exact n1.new b u q
section
variable {X : Cx}
theorem lc_lift {K : PySem.W.Frag} {R : Hp → V → PyData → Prop} {ti : DA} {tgs vs : List Nat} {tg : PyData → DEnv → Option DEnv} {tt : DT} {te : DE} (hv : ∀ i ∈ tgs, i ∈ vs) {σ : L2.St} {H : Hp} {Q : VK} (h : liE K (dLc ti tg tt te vs) σ H Q) :
    tLc (liI K R ti) (liG K R tgs tg) (liT K tt) (liE K te) vs σ H Q := by
  obtain ⟨G, ρ, d, vw, s, e, k⟩ := h
  unfold dLc at e
  split at e
  · rename_i ds h1
    split at e
    · rename_i hz
      split at e
      · rename_i ys h2
        cases e
        exact ⟨G, ρ, ds, vw, s, h1, fun J G1 H1 n1 w D hD => lc_data w n1.v (s.mono n1.g) hD hv hz h2 fun v G2 H2 n2 r2 => k v G2 H2 (n1.trans n2) r2⟩
      · cases e
    · cases e
  · cases e
theorem pdts_nil : PTs X [] (liT X.K dYes) := PTs.imp pts_nil fun σ H Q ⟨G, ρ, b, vw, s, e, k⟩ => by
  cases e
  exact k G H (Nxt.refl vw)
theorem pdts_one {c : Expr} {t : DT} (h : PT X c (liT X.K t)) : PTs X [c] (liT X.K t) := pts_one h
theorem pd_lc {R : Hp → V → PyData → Prop} {elt tg iter : Expr} {ifs : List Expr} {scope : Scope} {own : List (Str × Nat)} {pos : Pos} {ti : DA} {tgs : List Nat} {g : PyData → DEnv → Option DEnv} {tt : DT} {te : DE} (hc : X.calm = true) (hN : X.N.Nodup) (hi : PI X tg iter (liI X.K R ti)) (ok : BlkOk X.N X.env.scope scope own)
    (hv : ∀ i ∈ tgs, i ∈ own.map (·.2))
    (hg : ∀ (s : Shared) (H : Hp) (C : Addr) (cl : List (Str × Addr)) (fp : List Addr), PG (X.blk s H scope (compEnvC scope cl C X.env) fp) tg (liG X.K R tgs g)) (ht : ∀ (s : Shared) (H : Hp) (C : Addr) (cl : List (Str × Addr)) (fp : List Addr), PTs (X.blk s H scope (compEnvC scope cl C X.env) fp) ifs (liT X.K tt))
    (he : ∀ (s : Shared) (H : Hp) (C : Addr) (cl : List (Str × Addr)) (fp : List Addr), PE (X.blk s H scope (compEnvC scope cl C X.env) fp) elt (liE X.K te)) (hs : ∀ x, foldedSetIterable iter X.env x = pure x := by intro _; rfl) :
    PE X (.ListComp elt [⟨tg, iter, ifs, 0⟩] scope pos) (liE X.K (dLc ti g tt te (own.map (·.2)))) := PE.imp (pe_lc hc hN hi ok hg ht he hs) fun _ _ _ h => lc_lift hv h
theorem pds_setLc {F : List Nat} {R : Hp → V → PyData → Prop} {i : Nat} {y : Str} {py : Pos} {elt tg iter : Expr} {ifs : List Expr} {scope : Scope} {own : List (Str × Nat)} {pos spos : Pos} {ti : DA} {tgs : List Nat} {g : PyData → DEnv → Option DEnv} {tt : DT} {te : DE} (hc : X.calm = true) (hN : X.N.Nodup) (hy : X.N[i]? = some y) (hyl : X.env.scope.names.lookup y = some .local)
    (hsw : swapsWith (.ListComp elt [⟨tg, iter, ifs, 0⟩] scope pos) (some (.Name y py)) spos.line X.env = pure true) (hi : PI X tg iter (liI X.K R ti)) (ok : BlkOk X.N X.env.scope scope own)
    (hv : ∀ i ∈ tgs, i ∈ own.map (·.2))
    (hg : ∀ (s : Shared) (H : Hp) (C : Addr) (cl : List (Str × Addr)) (fp : List Addr), PG (X.blk s H scope (compEnvC scope cl C X.env) fp) tg (liG X.K R tgs g)) (ht : ∀ (s : Shared) (H : Hp) (C : Addr) (cl : List (Str × Addr)) (fp : List Addr), PTs (X.blk s H scope (compEnvC scope cl C X.env) fp) ifs (liT X.K tt))
    (he : ∀ (s : Shared) (H : Hp) (C : Addr) (cl : List (Str × Addr)) (fp : List Addr), PE (X.blk s H scope (compEnvC scope cl C X.env) fp) elt (liE X.K te)) (hs : ∀ x, foldedSetIterable iter X.env x = pure x := by intro _; rfl) (hF : i ∉ F := by decide) :
    PS X (.Assign [.Name y py] (.ListComp elt [⟨tg, iter, ifs, 0⟩] scope pos) spos) (liS X.K F (dAsg i (dLc ti g tt te (own.map (·.2))))) := PS.imp (ps_setLc hc hN hy hyl hsw hi ok hg ht he hs) fun D σ H ⟨G, ρ, o, vw, s, e, k⟩ => by
  unfold dAsg at e
  split at e
  · rename_i d h
    cases e
    exact lc_lift hv ⟨G, ρ, d, vw, s, h, fun v G1 H1 n r => k _ G1 H1 n ((s.mono n.g).set r) (Frm.set hF)⟩
  · cases e
end
end Od
end
section
set_option maxHeartbeats 2000000
/-! OdIter: what loops and comprehensions walk, over data. -/
namespace Od
open PySem PySem.Spec PyProof.Rows L2
section
variable {K : PySem.W.Frag} {G H : Hp} {a b : Addr} {xs ys : List V} {ds es : List PyData}
theorem walkD_at {J : It} {n : Nat} {Gv : Hp → Prop} (w : Walk J n Gv (YAt xs)) (hn : n = xs.length) (hg : ∀ H, Same G H → Gv H) (r : RpAll K G xs ds) : WalkD (Rp K) J ds G := by
  have hl := r.length
  refine ⟨fun i H hi s => w.goes i H (by omega) (hg H s), fun H s => ?_, fun i H x H' d G1 hd s1 s2 y => ?_⟩
  · have q := w.stops H (hg H s)
    rw [hn, hl] at q
    exact q
  · have hi : i < ds.length := (List.getElem?_eq_some_iff.mp hd).1
    obtain ⟨rfl, hx⟩ := w.yields i H x H' (by omega) (hg H (s1.trans s2)) y
    obtain ⟨v, h1, h2⟩ := r.get hd
    rw [hx] at h1
    cases h1
    exact ⟨G1, Nxt.refl s2, h2.mono s1⟩
theorem walkD_list (h : G a = some (.lst xs)) (r : RpAll K G xs ds) : WalkD (Rp K) (Itl K a) ds G := walkD_at walk_list rfl (fun _ s => SqL.of (s _ _ h)) r
theorem walkD_tup (h : TupF G a xs) (r : RpAll K G xs ds) : WalkD (Rp K) (Itt K a) ds G := walkD_at walk_tup rfl (fun _ s => (h.mono s).sq) r
def pairsOf : List PyData → List PyData → List PyData
  | d :: ds, e :: es => .tuple [d, e] :: pairsOf ds es
  | _, _ => []
theorem pairs_get : ∀ {ds es : List PyData} {i : Nat} {p : PyData}, (pairsOf ds es)[i]? = some p → ∃ d e, ds[i]? = some d ∧ es[i]? = some e ∧ p = .tuple [d, e]
  | d :: ds, e :: es, 0, p, h => by
    cases h
    exact ⟨d, e, rfl, rfl, rfl⟩
  | d :: ds, e :: es, i + 1, p, h => by
    obtain ⟨d', e', h1, h2, h3⟩ := pairs_get (ds := ds) (es := es) (i := i) (p := p) (by simpa [pairsOf] using h)
    exact ⟨d', e', by simpa using h1, by simpa using h2, h3⟩
  | [], _, _, _, h => by simp [pairsOf] at h
  | _ :: _, [], _, _, h => by simp [pairsOf] at h
theorem pairs_len : ∀ (ds es : List PyData), (pairsOf ds es).length = min ds.length es.length
  | d :: ds, e :: es => by
    show (pairsOf ds es).length + 1 = min (ds.length + 1) (es.length + 1)
    rw [pairs_len ds es]
    omega
  | [], _ => by simp [pairsOf]
  | _ :: _, [] => by simp [pairsOf]
/-- pairs made at each turn -/
theorem walkD_pair {J : It} {n : Nat} {Gv : Hp → Prop} {fx fy : Nat → Option V} {ps : List PyData} (w : Walk J n Gv (YPair fx fy)) (hn : n = ps.length) (hg : ∀ H, Same G H → Gv H)
    (hp : ∀ i p x y, ps[i]? = some p → fx i = some x → fy i = some y → ∃ d e, p = .tuple [d, e] ∧ Rp K G x d ∧ Rp K G y e) : WalkD (WRp K) J ps G := by
  refine ⟨fun i H hi s => w.goes i H (by omega) (hg H s), fun H s => ?_, fun i H v H' d G1 hd s1 s2 y => ?_⟩
  · have q := w.stops H (hg H s)
    rw [hn] at q
    exact q
  · have hi : i < ps.length := (List.getElem?_eq_some_iff.mp hd).1
    obtain ⟨T, x, z, rfl, hT, rfl, hx, hz⟩ := w.yields i H v H' (by omega) (hg H (s1.trans s2)) y
    obtain ⟨d1, e1, rfl, r1, r2⟩ := hp i d x z hd hx hz
    refine ⟨upd G1 T (.tup [x, z]), Nxt.upd s2 hT, .inr ⟨T, [x, z], [d1, e1], rfl, upd_same, ?_, rfl⟩⟩
    have m := same_upd (o := .tup [x, z]) (s2.free hT)
    exact .cons ((r1.mono s1).mono m) (.cons ((r2.mono s1).mono m) .nil)
def enumOf : Nat → List PyData → List PyData
  | _, [] => []
  | i, d :: ds => .tuple [.int (i : Nat), d] :: enumOf (i + 1) ds
theorem enum_get : ∀ {ds : List PyData} {k i : Nat} {p : PyData}, (enumOf k ds)[i]? = some p → ∃ d, ds[i]? = some d ∧ p = .tuple [.int ((k + i : Nat) : Int), d]
  | d :: ds, k, 0, p, h => by
    cases h
    exact ⟨d, rfl, rfl⟩
  | d :: ds, k, i + 1, p, h => by
    obtain ⟨d', h1, h2⟩ := enum_get (ds := ds) (k := k + 1) (i := i) (p := p) (by simpa [enumOf] using h)
    exact ⟨d', by simpa using h1, by rw [h2]; congr 3; omega⟩
  | [], _, _, _, h => by simp [enumOf] at h
theorem enum_len : ∀ (k : Nat) (ds : List PyData), (enumOf k ds).length = ds.length
  | _, [] => rfl
  | k, d :: ds => congrArg (· + 1) (enum_len (k + 1) ds)
theorem walkD_enum (h : G a = some (.lst xs)) (r : RpAll K G xs ds) : WalkD (WRp K) (Ite K a) (enumOf 0 ds) G := by
  refine walkD_pair (walk_enum (K := K) (a := a) (xs := xs)) (by rw [enum_len, r.length]) (fun _ s => SqL.of (s _ _ h)) fun i p x y hp hx hy => ?_
  obtain ⟨d, h1, rfl⟩ := enum_get hp
  cases hx
  obtain ⟨v, h3, h4⟩ := r.get h1
  rw [hy] at h3
  cases h3
  exact ⟨_, _, rfl, by rw [Nat.zero_add]; exact .int _, h4⟩
theorem walkD_zip (h : G a = some (.lst xs)) (h' : G b = some (.lst ys)) (r : RpAll K G xs ds) (r' : RpAll K G ys es) : WalkD (WRp K) (Itz K a b) (pairsOf ds es) G := by
  refine walkD_pair (walk_zip (K := K) (a := a) (b := b) (xs := xs) (ys := ys) rfl) (by rw [pairs_len, r.length, r'.length]) (fun _ s => ⟨SqL.of (s _ _ h), SqL.of (s _ _ h')⟩) fun i p x y hp hx hy => ?_
  obtain ⟨d, e, h1, h2, rfl⟩ := pairs_get hp
  obtain ⟨v, h3, h4⟩ := r.get h1
  obtain ⟨w, h5, h6⟩ := r'.get h2
  rw [hx] at h3
  cases h3
  rw [hy] at h5
  cases h5
  exact ⟨_, _, rfl, h4, h6⟩
end
def dItems (t : DE) : DA := fun ρ => match t ρ with
  | some (.list ds) => some ds
  | some (.tuple ds) => some ds
  | _ => none
def chars (x : Str) : List PyData := x.cps.toList.map fun c => .str ⟨#[c]⟩
def dChars (t : DE) : DA := fun ρ => match t ρ with
  | some (.str x) => some (chars x)
  | _ => none
def dEnum (t : DE) : DA := fun ρ => match t ρ with
  | some (.list ds) => some (enumOf 0 ds)
  | _ => none
def dZip (t u : DE) : DA := fun ρ => match t ρ with
  | some (.list ds) => match u ρ with
    | some (.list es) => some (pairsOf ds es)
    | _ => none
  | some (.tuple ds) => match u ρ with
    | some (.tuple es) => some (pairsOf ds es)
    | _ => none
  | _ => none
def rangeOf (n : Nat) : List PyData := (List.range n).map fun i => .int (i : Nat)
def dRange (t : DE) : DA := fun ρ => match t ρ with
  | some (.int n) => if 0 ≤ n ∧ n ≤ 1000000 then some (rangeOf n.toNat) else none
  | _ => none
section
variable {X : Cx} {tg e e2 : Expr} {t u : DE} {p pos tpos : Pos} {elts : List Expr} {kk : Nat}
theorem itr_list {pins : List (Addr × Obj)} {σ : L2.St} {H1 : Hp} {s1 : Shared} {a : Addr} {xs : List V} {R : It → Hp → Prop} (I1 : Inv X pins σ H1 s1) (hq : SqL X.K H1 a xs) (q : R (Itl X.K a) H1) : wpAny (model X.prog X.w) X.A (pyIter (.ref a)) (PIE X pins σ tg R) X.xe s1 := by
  obtain ⟨its, rv, pl, hz⟩ := I1.list hq
  refine wpAny_pyIter_list pl.isList ?_
  refine ⟨s1.heap.objs.size, [s1.heap.objs.size], _, _, H1, rfl, I1.kept (t' := s1.toks) fun b o e => Heap.get?_push_of_some _ e, turn_list a _, ⟨_, Heap.get?_push_size _ rfl, rfl, rfl⟩, fun b hb => ?_, q⟩
  rw [List.mem_singleton.mp hb]
  exact I1.fpOk (Nat.le_refl _) (I1.hok.fresh (Nat.le_refl _))
theorem itr_tup {pins : List (Addr × Obj)} {σ : L2.St} {H1 : Hp} {s1 : Shared} {a : Addr} {xs : List V} {R : It → Hp → Prop} (I1 : Inv X pins σ H1 s1) (hq : SqT X.K H1 a xs) (q : R (Itt X.K a) H1) : wpAny (model X.prog X.w) X.A (pyIter (.ref a)) (PIE X pins σ tg R) X.xe s1 := by
  obtain ⟨its, rv, pl, hz⟩ := I1.tuple hq
  refine wpAny_pyIter_tuple (show s1.heap.IsTuple a its.toArray from pl) ?_
  refine ⟨s1.heap.objs.size, [s1.heap.objs.size], _, _, H1, rfl, I1.kept (t' := s1.toks) fun b o e => Heap.get?_push_of_some _ e, turn_tuple a _, ⟨_, Heap.get?_push_size _ rfl, rfl, rfl⟩, fun b hb => ?_, q⟩
  rw [List.mem_singleton.mp hb]
  exact I1.fpOk (Nat.le_refl _) (I1.hok.fresh (Nat.le_refl _))
theorem pdi_seq (h : PE X e (liE X.K t)) : PI X tg e (liI X.K (Rp X.K) (dItems t)) := by
  refine ⟨fun pins s σ H R I hw => ?_⟩
  obtain ⟨G, ρ, ds, vw, sl, e1, k⟩ := hw
  unfold dItems at e1
  have hw2 : ∃ d, t ρ = some d ∧ (d = .list ds ∨ d = .tuple ds) := by
    split at e1
    · cases e1; exact ⟨_, by assumption, .inl rfl⟩
    · cases e1; exact ⟨_, by assumption, .inr rfl⟩
    · cases e1
  obtain ⟨d, h1, hd⟩ := hw2
  refine thn (h.run pins s σ H (fun v H1 => ∃ G1, Nxt G H G1 H1 ∧ Rp X.K G1 v d) I ⟨G, ρ, d, vw, sl, h1, fun v G1 H1 n r => ⟨G1, n, r⟩⟩) fun v s1 ⟨x, H1, I1, r1, G1, n1, rx⟩ => ?_
  rcases hd with rfl | rfl
  · cases rx with
    | lst ha r =>
      cases r1
      exact itr_list I1 (SqL.of (n1.v _ _ ha)) (k _ G1 H1 n1 (walkD_list ha r))
  · cases rx with
    | tup ha r =>
      cases r1
      exact itr_tup I1 (ha.mono n1.v).sq (k _ G1 H1 n1 (walkD_tup ha r))
theorem pdi_chars (h : PE X e (liE X.K t)) : PI X tg e (liI X.K (Rp X.K) (dChars t)) := PI.imp (pi_str h) fun σ H R ⟨G, ρ, ds, vw, sl, e1, k⟩ => by
  unfold dChars at e1
  split at e1
  · rename_i x h1
    cases e1
    refine ⟨G, ρ, _, vw, sl, h1, fun v G1 H1 n1 r1 => ?_⟩
    cases r1
    refine ⟨x, rfl, k _ G1 H1 n1 ?_⟩
    have w := walk_str (z := x)
    have hl : (chars x).length = x.cps.size := by unfold chars; rw [List.length_map, Array.length_toList]
    refine ⟨fun i H hi s => w.goes i H (by omega) trivial, fun H s => by rw [hl]; exact w.stops H trivial, fun i H v H' d G2 hd s1 s2 y => ?_⟩
    have hi : i < (chars x).length := (List.getElem?_eq_some_iff.mp hd).1
    obtain ⟨rfl, c, hc, rfl⟩ := w.yields i H v H' (by omega) trivial y
    unfold chars at hd
    rw [List.getElem?_map, Array.getElem?_toList, hc] at hd
    cases hd
    exact ⟨G2, Nxt.refl s2, .str _⟩
  · cases e1
theorem pdi_enum (hg : Gl X "enumerate") (hm : X.mg "enumerate" = none) (ha : PE X e (liE X.K t)) (hs : starEach [e] X.env = [(false, eval e X.env)] := by rfl) :
    PI X (.Tuple elts kk tpos) (.Call (.Name "enumerate" p) [e] [] pos) (liI X.K (WRp X.K) (dEnum t)) := PI.imp (pi_enum hg hm (pa_cons ha pa_nil (by rw [hs] <;> rfl)) hs) fun σ H R ⟨G, ρ, ds, vw, sl, e1, k⟩ => by
  unfold dEnum at e1
  split at e1
  · rename_i ds h1
    cases e1
    refine ⟨G, ρ, _, vw, sl, h1, fun v G1 H1 n1 r1 => ?_⟩
    cases r1 with
    | lst ha r => exact ⟨_, _, rfl, SqL.of (n1.v _ _ ha), k _ G1 H1 n1 (walkD_enum ha r)⟩
  · cases e1
theorem pdi_range (hg : Gl X "range") (hm : X.mg "range" = none) (ha : PE X e (liE X.K t)) (hs : starEach [e] X.env = [(false, eval e X.env)] := by rfl) : PI X tg (.Call (.Name "range" p) [e] [] pos) (liI X.K (Rp X.K) (dRange t)) :=
  PI.imp (pi_range1 hg hm (pa_cons ha pa_nil (by rw [hs] <;> rfl)) hs) fun σ H R ⟨G, ρ, ds, vw, sl, e1, k⟩ => by
  unfold dRange at e1
  split at e1
  · rename_i n h1
    split at e1
    · rename_i hz
      cases e1
      refine ⟨G, ρ, _, vw, sl, h1, fun v G1 H1 n1 r1 => ?_⟩
      cases r1
      refine ⟨n, rfl, by omega, by omega, k _ G1 H1 n1 ?_⟩
      have w := walk_range (lo := 0) (n := n.toNat)
      have hl : (rangeOf n.toNat).length = n.toNat := by unfold rangeOf; rw [List.length_map, List.length_range]
      refine ⟨fun i H hi s => w.goes i H (by omega) trivial, fun H s => by rw [hl]; exact w.stops H trivial, fun i H v H' d G2 hd s1 s2 y => ?_⟩
      have hi : i < (rangeOf n.toNat).length := (List.getElem?_eq_some_iff.mp hd).1
      obtain ⟨rfl, rfl⟩ := w.yields i H v H' (by omega) trivial y
      unfold rangeOf at hd
      rw [List.getElem?_map, List.getElem?_range (by omega)] at hd
      cases hd
      refine ⟨G2, Nxt.refl s2, ?_⟩
      show Rp X.K G2 (.int (0 + (i : Int))) (.int (i : Nat))
      rw [Int.zero_add]
      exact .int _
    · cases e1
  · cases e1
end
end Od
end
section
set_option maxHeartbeats 2000000
/-! OdDef: a def's promise over data, by its body. -/
namespace Od
open PySem PySem.Spec PyProof.Rows L2
def env0 (n : Nat) (ds : List PyData) : DEnv := ds.map some ++ List.replicate (n - ds.length) none
def runD (n : Nat) (t : DS) : List PyData → Option PyData := fun ds => match t (env0 n ds) with
  | some (.rt d) => some d
  | some (.nx _) => some .none
  | _ => none
theorem sl_start {K : PySem.W.Frag} {G : Hp} {N : List Str} {vs : List V} {ds : List PyData} (r : RpAll K G vs ds) : Sl K G (L2.start N vs) (env0 N.length ds) := by
  have hl := r.length
  unfold L2.start env0
  refine ⟨by rw [List.length_append, List.length_append, List.length_map, List.length_map, List.length_replicate, List.length_replicate, hl], fun i d h => ?_⟩
  by_cases hi : i < ds.length
  · rw [List.getElem?_append_left (by rw [List.length_map]; exact hi), List.getElem?_map] at h
    cases q : ds[i]? with
    | none => rw [q] at h; cases h
    | some e =>
      rw [q] at h
      cases h
      obtain ⟨v, h1, h2⟩ := r.get q
      refine ⟨v, ?_, h2⟩
      rw [List.getElem?_append_left (by rw [List.length_map, hl]; exact hi), List.getElem?_map, h1]
      rfl
  · rw [List.getElem?_append_right (by rw [List.length_map]; omega), List.getElem?_replicate] at h
    split at h <;> cases h
/-- how keywords bind: all of the parameters, in their order -/
def KB (K : PySem.W.Frag) (fd : FuncData) (ps : List Str) : Prop := ∀ (s : Shared) (ws : List Value), K.In s.heap → ws.length = ps.length → BindsTo s fd ⟨[], ps.zip ws⟩ (ps.zip ws)
/-- what a def of the text at the module's name x keeps -/
structure DefOk (P : Program) (w : World) (K : PySem.W.Frag) (mg : Str → Option Value) (base : Heap) (CX : CXT) (k : Nat) (x : Str) (ps : List Str) (sp : Sp) : Prop where
  ex : ∃ f fd, FnOk P w K mg base CX k f fd ps sp ∧ mg x = some (.ref f) ∧ PySem.W.keepIn K (.ref f) = true ∧ Binds K fd ps [] ∧ KB K fd ps
/-- where a def stands -/
structure DefAt (K : PySem.W.Frag) (mg : Str → Option Value) (x : Str) (st : Stmt) : Prop where
  ex : ∃ f fd, Fun K x x st f fd ∧ mg x = some (.ref f)
section
variable {P : Program} {w : World} {K : PySem.W.Frag} {mg : Str → Option Value} {base : Heap} {k : Nat} {x : Str} {st : Stmt} {N ps : List Str} {f : Addr} {fd : FuncData}
theorem Fun.kb (F : Fun K x x st f fd) (h : ∀ (kV doc pm : Value) (an : Option Addr) (cdv ct : Value) (us : List Value), us.length = ps.length → bindArgs (PySem.W.fnOf x x (defArgs st) (defBody st) (defScope st) .none kV doc pm an cdv ct) ⟨[], ps.zip us⟩ = pure (ps.zip us)) : KB K fd ps := by
  obtain ⟨oc, od, kV, doc, pm, an, cdv, ct, osl, rfl, lk, hcd⟩ := F.ex
  exact fun s ws _ hl => .of_eq (h kV doc pm an cdv ct ws hl)
theorem DefAt.okD (F : DefAt K mg x st) (S : FnScope N ps (defScope st)) (t : DS)
    (hb : ∀ (kV doc pm : Value) (an : Option Addr) (cdv ct : Value) (us : List Value), us.length = ps.length → bindArgs (PySem.W.fnOf x x (defArgs st) (defBody st) (defScope st) .none kV doc pm an cdv ct) ⟨us, []⟩ = pure (ps.zip us))
    (hbk : ∀ (kV doc pm : Value) (an : Option Addr) (cdv ct : Value) (us : List Value), us.length = ps.length → bindArgs (PySem.W.fnOf x x (defArgs st) (defBody st) (defScope st) .none kV doc pm an cdv ct) ⟨[], ps.zip us⟩ = pure (ps.zip us))
    (hbody : ∀ (f : Addr) (cdv : Value) (A : Around) (outer : List Env) (s : Shared) (H : Hp) (E : XK), Room k (A.deeper (envOfC x (defScope st) s.heap.objs.size f cdv)) → PSs (cxOf CX0 P w K mg base N x (defScope st) f cdv A outer s H E).nox (defBody st) (liS K [] t)) :
    DefOk P w K mg base CX0 (k + 1) x ps (spD K ps.length (runD N.length t)) := by
  obtain ⟨f, fd, F, hm⟩ := F.ex
  refine ⟨f, fd, F.ok S (fun vs H Q E h => h.1) (fun cdv A outer s H vs Q E hr h => ⟨_, hbody f cdv A outer s H E hr, ?_⟩), hm, F.kp, F.binds hb, Fun.kb F hbk⟩
  obtain ⟨hl, G, ds, d, vw, r, e, q⟩ := h
  unfold runD at e
  split at e
  · rename_i d' h1
    cases e
    exact ⟨G, _, _, vw, sl_start r, h1, fun v G' H' n r' => q v G' H' n r'⟩
  · rename_i ρ' h1
    cases e
    exact ⟨G, _, _, vw, sl_start r, h1, fun σ' G' H' n s' _ => q .non G' H' n .non⟩
  · cases e
theorem DefOk.imp {CX : CXT} {sp sp' : Sp} (D : DefOk P w K mg base CX k x ps sp) (h : ∀ vs H Q E, sp' vs H Q E → sp vs H Q E) : DefOk P w K mg base CX k x ps sp' :=
  let ⟨f, fd, F, m, kp, b, kb⟩ := D.ex
  ⟨f, fd, F.imp h, m, kp, b, kb⟩
/-- another way to tell the same answers -/
theorem DefOk.as {CX : CXT} {n : Nat} {f g : List PyData → Option PyData} (D : DefOk P w K mg base CX k x ps (spD K n f)) (h : ∀ ds d, g ds = some d → f ds = some d) : DefOk P w K mg base CX k x ps (spD K n g) :=
  D.imp fun vs H Q E ⟨hl, G, ds, d, vw, r, e, q⟩ => ⟨hl, G, ds, d, vw, r, h _ _ e, q⟩
theorem DefOk.mono {CX : CXT} {j : Nat} {sp : Sp} (D : DefOk P w K mg base CX j x ps sp) (h : j ≤ k) : DefOk P w K mg base CX k x ps sp :=
  let ⟨f, fd, F, m, kp, b, kb⟩ := D.ex
  ⟨f, fd, F.mono h, m, kp, b, kb⟩
end
/-- a call of a def that is told so -/
theorem pd_def {X : Cx} {CX : CXT} {k : Nat} {x : Str} {ps : List Str} {E : XK} {f : List PyData → Option PyData} {e : Expr} {es : List Expr} {ts : List DE} {p pos : Pos} (D : DefOk X.prog X.w X.K X.mg X.base CX k x ps (spD X.K ps.length f)) (hr : Room k X.A) (hg : Gl X x) (hx : Passes CX X E)
    (ha : PA X (e :: es) (liA X.K (dArgs ts))) (hz : ts.length = ps.length := by rfl) (hdb : (x == ("__debug__" : Str)) = false := by decide) (he : starEach (e :: es) X.env = (false, eval e X.env) :: starEach es X.env := by rfl) (hpl : (backTo pos (starEach es X.env)).any (·.1) = false := by rfl) :
    PE X (.Call (.Name x p) (e :: es) [] pos) (liE X.K (dN f (dArgs ts))) :=
  let ⟨_, _, F, m, kp, b, _⟩ := D.ex
  pd_call F hr hg m kp b hx ha hz hdb he hpl
/-! ### calls by keyword -/
def PdK (X : Cx) (kws : List Keyword) (ts : List DE) : Prop := PK X kws (liA X.K (dArgs ts))
theorem pdk_nil {X : Cx} : PdK X [] [] := ⟨fun pos pins s σ H Q I ⟨G, ρ, ds, vw, sl, e, k⟩ => by
  cases e
  exact pk_nil.run pos pins s σ H Q I (k [] G H (Nxt.refl vw) .nil)⟩
theorem pdk_cons {X : Cx} {e : Expr} {kws : List Keyword} {nm : Option Str} {kpos : Pos} {t : DE} {ts : List DE} (ha : PE X e (liE X.K t)) (hr : PdK X kws ts) : PdK X (⟨nm, e, kpos⟩ :: kws) (t :: ts) :=
  ⟨fun pos pins s σ H Q I ⟨G, ρ, ds, vw, sl, e, k⟩ => (pk_cons ha hr).run pos pins s σ H Q I (by
    unfold dArgs at e
    cases h1 : t ρ with
    | none => rw [h1] at e; cases e
    | some d =>
      cases h2 : dArgs ts ρ with
      | none => rw [h1, h2] at e; cases e
      | some es =>
        rw [h1, h2] at e
        cases e
        exact ⟨G, ρ, d, vw, sl, h1, fun x G1 H1 n1 r1 => ⟨G1, ρ, es, n1.v, sl.mono n1.g, h2, fun xs G2 H2 n2 r2 => k (x :: xs) G2 H2 (n1.trans n2) (.cons (r1.mono n2.g) r2)⟩⟩)⟩
/-- x(k = v, ..): all the parameters, in their order -/
theorem pe_defK {X : Cx} {CX : CXT} {k : Nat} {x : Str} {ps : List Str} {sp : Sp} {E : XK} {kws : List Keyword} {tk : TA} {p pos : Pos} (D : DefOk X.prog X.w X.K X.mg X.base CX k x ps sp) (hr : Room k X.A) (hg : Gl X x) (hx : Passes CX X E)
    (hkw : PK X kws tk) (hall : (backToKw pos (keywordEach kws X.env)).all (·.1.isSome) = true := by rfl) (hks : (backToKw pos (keywordEach kws X.env)).filterMap (·.1) = ps := by rfl) (hdb : (x == ("__debug__" : Str)) = false := by decide)
    (hpl : ((backTo pos (starEach [] X.env)).any (·.1) || (backToKw pos (keywordEach kws X.env)).any (·.1.isNone)) = false := by rfl) :
    PE X (.Call (.Name x p) [] kws pos) (fun σ H Q => tk σ H fun vs H1 => sp vs H1 Q E) := by
  obtain ⟨f, fd, F, m, kp, b, kb⟩ := D.ex
  refine ⟨fun pins s σ H Q I h => ?_⟩
  refine wpAny_Call_Name_kw (ld_glob I hg m ?_ hdb)
  refine PySem.W.callWith_KW0 (h₀ := X.base) I.ok.mod.kin kp hall (thn (hkw.run pos pins s σ H _ I h) fun ws s2 ⟨zs, H2, I2, rz, q2⟩ => ⟨I2.kIn, ?_⟩) hpl
  rw [hks]
  have hl : ws.length = ps.length := by rw [← rz.length]; exact F.len _ _ _ _ q2
  refine wpAny_call (codeAny_mono (F.run X.A X.stack s2 H2 ⟨[], ps.zip ws⟩ ws zs Q E hr I2.env0 (kb s2 ws I2.kIn hl) rz q2) fun r s' hq => ?_)
  cases r with
  | error e => exact hx pins σ H2 s2 e s' I2 hq
  | ok fl =>
    cases fl with
    | ret u => exact I2.after hq
    | next => exact False.elim hq
    | brk => exact False.elim hq
    | cont => exact False.elim hq
theorem pd_defK {X : Cx} {CX : CXT} {k : Nat} {x : Str} {ps : List Str} {E : XK} {f : List PyData → Option PyData} {kws : List Keyword} {ts : List DE} {p pos : Pos} (D : DefOk X.prog X.w X.K X.mg X.base CX k x ps (spD X.K ps.length f)) (hr : Room k X.A) (hg : Gl X x) (hx : Passes CX X E)
    (hkw : PdK X kws ts) (hz : ts.length = ps.length := by rfl) (hall : (backToKw pos (keywordEach kws X.env)).all (·.1.isSome) = true := by rfl) (hks : (backToKw pos (keywordEach kws X.env)).filterMap (·.1) = ps := by rfl) (hdb : (x == ("__debug__" : Str)) = false := by decide)
    (hpl : ((backTo pos (starEach [] X.env)).any (·.1) || (backToKw pos (keywordEach kws X.env)).any (·.1.isNone)) = false := by rfl) :
    PE X (.Call (.Name x p) [] kws pos) (liE X.K (dN f (dArgs ts))) :=
  PE.imp (pe_defK D hr hg hx hkw hall hks hdb hpl) fun σ H Q h => by
    obtain ⟨G, ρ, ds, vw, s, h1, q⟩ := liftN h
    exact ⟨G, ρ, ds, vw, s, h1, fun vs G1 H1 n1 r1 => ⟨by rw [r1.length, dArgs_length h1, hz], q vs G1 H1 n1 r1⟩⟩
/-- the built-ins that the module does not bind -/
structure Bl (mg : Str → Option Value) : Prop where
  isinstance : mg "isinstance" = none
  len : mg "len" = none
  all : mg "all" = none
  tuple : mg "tuple" = none
  sorted : mg "sorted" = none
  set : mg "set" = none
  dict : mg "dict" = none
  list : mg "list" = none
  min : mg "min" = none
  max : mg "max" = none
  sum : mg "sum" = none
  int : mg "int" = none
  abs : mg "abs" = none
  str : mg "str" = none
  bool : mg "bool" = none
  enumerate : mg "enumerate" = none
  zip : mg "zip" = none
  range : mg "range" = none
  valueError : mg "ValueError" = none
end Od
end
section
set_option maxHeartbeats 2000000
/-! OdMore: globals, chains, pairs of stores, two clauses, starred displays, zip. -/
namespace Od
open PySem PySem.Spec PyProof.Rows L2
/-- the numbers and the text that the module binds -/
structure Cs (mg : Str → Option Value) : Prop where
  pair : ∃ t, mg "PAIR" = some (.int 2 t)
  longest : ∃ t, mg "LONGEST" = some (.int 8 t)
  letters : ∃ t, mg "LETTERS" = some (.str (Str.ofString "abcdefghijklmnopqrstuvwxyz") t)
def dChain (f g : PyData → PyData → Option PyData) (t u v : DE) : DE := fun ρ => match t ρ with
  | some a => match u ρ with
    | some b => match f a b with
      | some (.bool true) => match v ρ with
        | some c => g b c
        | none => none
      | some (.bool false) => some (.bool false)
      | _ => none
    | none => none
  | none => none
def dPar (i j : Nat) (t u : DE) : DS := fun ρ => match t ρ with
  | some a => match u ρ with
    | some b => some (.nx ((ρ.set i (some a)).set j (some b)))
    | none => none
  | none => none
def dStar (t : DE) (r : DA) : DA := fun ρ => match t ρ with
  | some (.tuple xs) => match r ρ with
    | some ys => some (xs ++ ys)
    | none => none
  | some (.list xs) => match r ρ with
    | some ys => some (xs ++ ys)
    | none => none
  | _ => none
def dConsA (t : DE) (r : DA) : DA := fun ρ => match t ρ with
  | some x => match r ρ with
    | some ys => some (x :: ys)
    | none => none
  | none => none
def dTupA (t : DA) : DE := fun ρ => match t ρ with
  | some ds => if ds.length ≤ 1000000 then some (.tuple ds) else none
  | none => none
def dLstA (t : DA) : DE := fun ρ => match t ρ with
  | some ds => if ds.length ≤ 1000000 then some (.list ds) else none
  | none => none
section
variable {X : Cx} {pos : Pos}
theorem pd_globI {i : Int} {x : Str} (hg : Gl X x) (hm : ∃ t, X.mg x = some (.int i t)) (hd : (x == ("__debug__" : Str)) = false := by decide) : PE X (.Name x pos) (liE X.K (dC (.int i))) :=
  let ⟨_, h⟩ := hm; pd_c (v := .int i) (pe_glob hg h ⟨_, rfl⟩ hd) fun _ => .int i
theorem pd_globS {i x : Str} (hg : Gl X x) (hm : ∃ t, X.mg x = some (.str i t)) (hd : (x == ("__debug__" : Str)) = false := by decide) : PE X (.Name x pos) (liE X.K (dC (.str i))) :=
  let ⟨_, h⟩ := hm; pd_c (v := .str i) (pe_glob hg h ⟨_, rfl⟩ hd) fun _ => .str i
variable {a b c : Expr} {t u v : DE} {f g : PyData → PyData → Option PyData}
theorem lift_chain {K : PySem.W.Frag} {σ : L2.St} {H : Hp} {Q : VK} (h : liE K (dChain f g t u v) σ H Q) : tChain (rD2 K f) (rD2 K g) (liE K t) (liE K u) (liE K v) σ H Q := by
  obtain ⟨G, ρ, d, vw, s, e, k⟩ := h
  unfold dChain at e
  cases h1 : t ρ with
  | none => rw [h1] at e; cases e
  | some x =>
    cases h2 : u ρ with
    | none => rw [h1, h2] at e; cases e
    | some y =>
      rw [h1, h2] at e
      dsimp only at e
      refine ⟨G, ρ, x, vw, s, h1, fun vx G1 H1 n1 r1 => ⟨G1, ρ, y, n1.v, s.mono n1.g, h2, fun vy G2 H2 n2 r2 => ?_⟩⟩
      split at e
      · rename_i h3
        refine ⟨G2, x, y, _, n2.v, r1.mono n2.g, r2, h3, fun w G3 H3 n3 r3 => ?_⟩
        cases r3
        cases h4 : v ρ with
        | none => rw [h4] at e; cases e
        | some z =>
          rw [h4] at e
          exact ⟨true, rfl, iteT ⟨G3, ρ, z, n3.v, s.mono (n1.g.trans (n2.g.trans n3.g)), h4, fun w' G4 H4 n4 r4 => ⟨G4, y, z, d, n4.v, (r2.mono n3.g).mono n4.g, r4, e, fun v' G5 H5 n5 r5 => k v' G5 H5 ((((n1.trans n2).trans n3).trans n4).trans n5) r5⟩⟩⟩
      · rename_i h3
        cases e
        refine ⟨G2, x, y, _, n2.v, r1.mono n2.g, r2, h3, fun w G3 H3 n3 r3 => ?_⟩
        cases r3
        exact ⟨false, rfl, iteF (k _ G3 H3 ((n1.trans n2).trans n3) (.bl false))⟩
      · cases e
theorem pd_chain {op op' : CmpOp} (ho : OpR X (compareOp op) (rD2 X.K f)) (ho' : OpR X (compareOp op') (rD2 X.K g)) (ha : PE X a (liE X.K t)) (hb : PE X b (liE X.K u)) (hc : PE X c (liE X.K v)) (hm : lastMarks [op, op'] [b, c] = false := by with_unfolding_all rfl) :
    PE X (.Compare a [op, op'] [b, c] pos) (liE X.K (dChain f g t u v)) := PE.imp (pe_chain ho ho' ha hb hc hm) fun _ _ _ => lift_chain
theorem pdt_chain {op op' : CmpOp} (ho : OpR X (compareOp op) (rD2 X.K f)) (ho' : OpR X (compareOp op') (rD2 X.K g)) (ha : PE X a (liE X.K t)) (hb : PE X b (liE X.K u)) (hc : PE X c (liE X.K v)) (hm : lastMarks [op, op'] [b, c] = false := by with_unfolding_all rfl) :
    PT X (.Compare a [op, op'] [b, c] pos) (liT X.K (dB (dChain f g t u v))) := PT.imp (pt_chain ho ho' ha hb hc hm) fun _ _ _ h => lift_chain (liB h)
theorem pds_par {F : List Nat} {i j : Nat} {x y : Str} {px py pt : Pos} {kt k2 pt2} (hc : X.calm = true) (hN : X.N.Nodup) (hi : X.N[i]? = some x) (hj : X.N[j]? = some y) (hij : i ≠ j)
    (hx : X.env.scope.names.lookup x = some .local) (hy : X.env.scope.names.lookup y = some .local) (ha : PE X a (liE X.K t)) (hb : PE X b (liE X.K u))
    (hw : swappedStores [.Tuple [.Name x px, .Name y py] kt pt] (.Tuple [a, b] k2 pt2) X.env = pure (some [x, y]))
    (hs : swapsWithSole [.Tuple [.Name x px, .Name y py] kt pt] (.Tuple [a, b] k2 pt2) pos.line X.env = pure false := by rfl) (he : starEach [a, b] X.env = (false, eval a X.env) :: starEach [b] X.env := by rfl) (he2 : starEach [b] X.env = (false, eval b X.env) :: starEach [] X.env := by rfl) (hF : i ∉ F := by decide) (hF2 : j ∉ F := by decide) :
    PS X (.Assign [.Tuple [.Name x px, .Name y py] kt pt] (.Tuple [a, b] k2 pt2) pos) (liS X.K F (dPar i j t u)) :=
  PS.imp (ps_par hc hN hi hj hij hx hy (pa_cons ha (pa_cons hb pa_nil he2) he) hw hs) fun D σ H ⟨G, ρ, o, vw, s, e, k⟩ => by
    unfold dPar at e
    cases h1 : t ρ with
    | none => rw [h1] at e; cases e
    | some x =>
      cases h2 : u ρ with
      | none => rw [h1, h2] at e; cases e
      | some y =>
        rw [h1, h2] at e
        cases e
        exact ⟨G, ρ, x, vw, s, h1, fun vx G1 H1 n1 r1 => ⟨G1, ρ, y, n1.v, s.mono n1.g, h2, fun vy G2 H2 n2 r2 => ⟨vx, vy, rfl, k _ G2 H2 (n1.trans n2) (((s.mono (n1.g.trans n2.g)).set (r1.mono n2.g)).set r2) ((Frm.set hF).trans (Frm.set hF2))⟩⟩⟩
/-! ### starred displays -/
variable {e : Expr} {es : List Expr} {p : Pos} {ta : DA}
theorem pdas_nil : PA X [] (liA X.K (fun _ => some [])) := pda_nil
theorem pdas_cons (ha : PE X e (liE X.K t)) (hr : PA X es (liA X.K ta)) (hs : starEach (e :: es) X.env = (false, eval e X.env) :: starEach es X.env := by rfl) : PA X (e :: es) (liA X.K (dConsA t ta)) :=
  PA.imp (pa_cons ha hr hs) fun σ H Q ⟨G, ρ, ds, vw, s, e, k⟩ => by
    unfold dConsA at e
    cases h1 : t ρ with
    | none => rw [h1] at e; cases e
    | some d =>
      cases h2 : ta ρ with
      | none => rw [h1, h2] at e; cases e
      | some es =>
        rw [h1, h2] at e
        cases e
        exact ⟨G, ρ, d, vw, s, h1, fun x G1 H1 n1 r1 => ⟨G1, ρ, es, n1.v, s.mono n1.g, h2, fun xs G2 H2 n2 r2 => k (x :: xs) G2 H2 (n1.trans n2) (.cons (r1.mono n2.g) r2)⟩⟩
theorem pdas_star (he : PE X e (liE X.K t)) (hr : PA X es (liA X.K ta)) (hs : starEach (.Starred e p :: es) X.env = (true, eval e X.env) :: starEach es X.env := by rfl) : PA X (.Starred e p :: es) (liA X.K (dStar t ta)) :=
  PA.imp (StX.pa_star he hr hs) fun σ H Q ⟨G, ρ, ds, vw, s, e, k⟩ => by
    unfold dStar at e
    split at e
    · rename_i xs h1
      cases h2 : ta ρ with
      | none => rw [h2] at e; cases e
      | some es =>
        rw [h2] at e
        cases e
        refine ⟨G, ρ, _, vw, s, h1, fun x G1 H1 n1 r1 => ?_⟩
        cases r1 with
        | tup hx r1 => exact ⟨_, _, rfl, .inl (hx.mono n1.v).sq, G1, ρ, es, n1.v, s.mono n1.g, h2, fun ys G2 H2 n2 r2 => k _ G2 H2 (n1.trans n2) ((r1.mono n2.g).append r2)⟩
    · rename_i xs h1
      cases h2 : ta ρ with
      | none => rw [h2] at e; cases e
      | some es =>
        rw [h2] at e
        cases e
        refine ⟨G, ρ, _, vw, s, h1, fun x G1 H1 n1 r1 => ?_⟩
        cases r1 with
        | lst hx r1 => exact ⟨_, _, rfl, .inr (SqL.of (n1.v _ _ hx)), G1, ρ, es, n1.v, s.mono n1.g, h2, fun ys G2 H2 n2 r2 => k _ G2 H2 (n1.trans n2) ((r1.mono n2.g).append r2)⟩
    · cases e
theorem pd_tupS {x1} (h : PA X es (liA X.K ta)) : PE X (.Tuple es x1 pos) (liE X.K (dTupA ta)) :=
  PE.imp (pe_tupF h) fun σ H Q ⟨G, ρ, d, vw, s, e, k⟩ => by
    unfold dTupA at e
    cases h2 : ta ρ with
    | none => rw [h2] at e; cases e
    | some ds =>
      rw [h2] at e
      dsimp only at e
      split at e
      · rename_i hz
        cases e
        refine ⟨G, ρ, ds, vw, s, h2, fun vs G1 H1 n1 r1 => ⟨?_, fun p o hp ho => ?_⟩⟩
        · rw [r1.length]
          exact small_line hz
        · have n2 := Nxt.upd (o := .frz o (.tup vs)) n1.v hp
          exact k _ _ _ (n1.trans n2) (.tup ⟨o, ho, upd_same⟩ (r1.mono n2.g))
      · cases e
theorem pd_lstS (h : PA X es (liA X.K ta)) : PE X (.List es pos) (liE X.K (dLstA ta)) :=
  PE.imp (pe_lst h) fun σ H Q ⟨G, ρ, d, vw, s, e, k⟩ => by
    unfold dLstA at e
    cases h2 : ta ρ with
    | none => rw [h2] at e; cases e
    | some ds =>
      rw [h2] at e
      dsimp only at e
      split at e
      · rename_i hz
        cases e
        refine ⟨G, ρ, ds, vw, s, h2, fun vs G1 H1 n1 r1 => ⟨?_, fun p hp => ?_⟩⟩
        · rw [r1.length]
          exact small_line hz
        · have n2 := Nxt.upd (o := .lst vs) n1.v hp
          exact k _ _ _ (n1.trans n2) (.lst upd_same (r1.mono n2.g))
      · cases e
end
/-! ### two clauses -/
def lcGo2 (tg : PyData → DEnv → Option DEnv) (tt : DT) (ti1 : DA) (tg1 : PyData → DEnv → Option DEnv) (tt1 : DT) (te : DE) (vs1 : List Nat) (ρ : DEnv) : List PyData → Option (List PyData)
  | [] => some []
  | d :: r => match tg d ρ with
    | some ρ1 => match tt ρ1 with
      | some true => match ti1 ρ1 with
        | some es => match lcGo tg1 tt1 te (wipeE ρ1 vs1) es with
          | some ys => match lcGo2 tg tt ti1 tg1 tt1 te vs1 ρ r with
            | some zs => some (ys ++ zs)
            | none => none
          | none => none
        | none => none
      | some false => lcGo2 tg tt ti1 tg1 tt1 te vs1 ρ r
      | none => none
    | none => none
def dLc2 (ti : DA) (tg : PyData → DEnv → Option DEnv) (tt : DT) (ti1 : DA) (tg1 : PyData → DEnv → Option DEnv) (tt1 : DT) (te : DE) (vs vs1 : List Nat) : DE := fun ρ => match ti ρ with
  | some ds => match lcGo2 tg tt ti1 tg1 tt1 te vs1 (wipeE ρ vs) ds with
    | some ys => if ys.length ≤ 1000000 then some (.list ys) else none
    | none => none
  | none => none
theorem lc2_data {K : PySem.W.Frag} {R R1 : Hp → V → PyData → Prop} {J : It} {ds ys : List PyData} {tgs tgs1 vs vs1 : List Nat} {tg tg1 : PyData → DEnv → Option DEnv} {tt tt1 : DT} {ti1 : DA} {te : DE} {σ : L2.St} {G H : Hp} {ρ : DEnv} {Q : VK} {D : Addr} (w : WalkD R J ds G) (vw : Same G H) (s : Sl K G σ ρ) (hD : H D = none)
    (hv : ∀ i ∈ tgs, i ∈ vs) (hv1 : ∀ i ∈ tgs1, i ∈ vs1) (hz : ys.length ≤ 1000000) (e : lcGo2 tg tt ti1 tg1 tt1 te vs1 (wipeE ρ vs) ds = some ys) (k : ∀ v G' H', Nxt G H G' H' → Rp K G' v (.list ys) → Q v H') :
    ∃ W : Nat → Nat → Hp → Prop, (∃ m, W 0 m (upd H D (.lst []))) ∧ ∀ i m H, W i m H →
  (J.stop i H ∧ Q (.ref D) H) ∨ (J.go i H ∧ ∃ Nx : Hp → Prop, (∀ H', Nx H' → ∃ m', m' < m ∧ W (i + 1) m' H') ∧ ∀ x H', J.yld i H x H' → liG K R tgs tg x (L2.wipe σ vs) H' fun σ2 H2 => L2.wipe σ2 vs = L2.wipe σ vs ∧ liT K tt σ2 H2 fun b H3 =>
    if b = true then liI K R1 ti1 σ2 H3 fun J1 H4 => ∃ W1 : Nat → Nat → Hp → Prop, (∃ m, W1 0 m H4) ∧ ∀ j k H, W1 j k H →
      (J1.stop j H ∧ Nx H) ∨ (J1.go j H ∧ ∃ Nx1 : Hp → Prop, (∀ H', Nx1 H' → ∃ k', k' < k ∧ W1 (j + 1) k' H') ∧ ∀ x H', J1.yld j H x H' → liG K R1 tgs1 tg1 x (L2.wipe σ2 vs1) H' fun σ3 H5 => L2.wipe σ3 vs1 = L2.wipe σ2 vs1 ∧ liT K tt1 σ3 H5 fun b H6 =>
        if b = true then liE K te σ3 H6 fun y H7 => ∃ acc, H7 D = some (.lst acc) ∧ acc.length < sizeLine ∧ Nx1 (upd H7 D (.lst (acc ++ [y]))) else Nx1 H6)
    else Nx H3) := by
  refine ⟨fun i m H' => m = ds.length - i ∧ i ≤ ds.length ∧ ∃ G1 acc zs rs, Nxt G H G1 H' ∧ G1 D = none ∧ H' D = some (.lst acc) ∧ RpAll K G1 acc zs ∧ lcGo2 tg tt ti1 tg1 tt1 te vs1 (wipeE ρ vs) (ds.drop i) = some rs ∧ ys = zs ++ rs,
    ⟨_, rfl, Nat.zero_le _, G, [], [], ys, Nxt.heap vw (same_upd hD), vw.free hD, upd_same, .nil, e, rfl⟩, ?_⟩
  rintro i m H1 ⟨rfl, hi, G1, acc, zs, rs, n1, gD, hD1, ra, e1, ey⟩
  by_cases hlt : i < ds.length
  · refine .inr ⟨w.goes i H1 hlt (n1.g.trans n1.v), fun H' => ∃ G1 acc zs rs, Nxt G H G1 H' ∧ G1 D = none ∧ H' D = some (.lst acc) ∧ RpAll K G1 acc zs ∧ lcGo2 tg tt ti1 tg1 tt1 te vs1 (wipeE ρ vs) (ds.drop (i + 1)) = some rs ∧ ys = zs ++ rs,
      fun H' q => ⟨ds.length - (i + 1), by omega, rfl, hlt, q⟩, fun x H2 y => ?_⟩
    have hd : ds[i]? = some ds[i] := List.getElem?_eq_getElem hlt
    obtain ⟨G2, n2, r2⟩ := w.yields i H1 x H2 ds[i] G1 hd n1.g n1.v y
    rw [List.drop_eq_getElem_cons hlt] at e1
    unfold lcGo2 at e1
    cases h1 : tg ds[i] (wipeE ρ vs) with
    | none => rw [h1] at e1; cases e1
    | some ρ1 =>
      rw [h1] at e1
      dsimp only at e1
      refine ⟨G2, wipeE ρ vs, ds[i], ρ1, n2.v, (s.mono (n1.g.trans n2.g)).wipe vs, r2, h1, fun σ2 s2 a2 => ⟨wipe_agr a2 hv, ?_⟩⟩
      cases h2 : tt ρ1 with
      | none => rw [h2] at e1; cases e1
      | some b =>
        rw [h2] at e1
        refine ⟨G2, ρ1, b, n2.v, s2, h2, fun G3 H3 n3 => ?_⟩
        cases b with
        | false =>
          refine iteF ⟨G3, acc, zs, rs, (n1.trans n2).trans n3, n3.mask (n2.mask gD hD1) (n2.h _ _ hD1), n3.h _ _ (n2.h _ _ hD1), ra.mono (n2.g.trans n3.g), e1, ey⟩
        | true =>
          dsimp only at e1
          cases h3 : ti1 ρ1 with
          | none => rw [h3] at e1; cases e1
          | some es =>
          rw [h3] at e1
          dsimp only at e1
          cases h4 : lcGo tg1 tt1 te (wipeE ρ1 vs1) es with
          | none => rw [h4] at e1; cases e1
          | some ys1 =>
          rw [h4] at e1
          dsimp only at e1
          cases h5 : lcGo2 tg tt ti1 tg1 tt1 te vs1 (wipeE ρ vs) (ds.drop (i + 1)) with
          | none => rw [h5] at e1; cases e1
          | some rs2 =>
          rw [h5] at e1
          cases e1
          refine iteT ⟨G3, ρ1, es, n3.v, s2.mono n3.g, h3, fun J1 G4 H4 n4 w1 => ?_⟩
          have n14 := ((n1.trans n2).trans n3).trans n4
          have hD4 := n4.h _ _ (n3.h _ _ (n2.h _ _ hD1))
          have gD4 := n4.mask (n3.mask (n2.mask gD hD1) (n2.h _ _ hD1)) (n3.h _ _ (n2.h _ _ hD1))
          have s4 := s2.mono (n3.g.trans n4.g)
          refine ⟨fun j k H' => k = es.length - j ∧ j ≤ es.length ∧ ∃ G5 acc zs rs1, Nxt G H G5 H' ∧ Same G4 G5 ∧ G5 D = none ∧ H' D = some (.lst acc) ∧ RpAll K G5 acc zs ∧ lcGo tg1 tt1 te (wipeE ρ1 vs1) (es.drop j) = some rs1 ∧ ys = zs ++ (rs1 ++ rs2),
            ⟨_, rfl, Nat.zero_le _, G4, acc, zs, ys1, n14, Same.refl _, gD4, hD4, ra.mono (n2.g.trans (n3.g.trans n4.g)), h4, ey⟩, ?_⟩
          rintro j kk H5 ⟨rfl, hj, G5, acc5, zs5, rs5, n5, g45, gD5, hD5, ra5, e5, ey5⟩
          by_cases hlj : j < es.length
          · refine .inr ⟨w1.goes j H5 hlj (g45.trans n5.v), fun H' => ∃ G5 acc zs rs1, Nxt G H G5 H' ∧ Same G4 G5 ∧ G5 D = none ∧ H' D = some (.lst acc) ∧ RpAll K G5 acc zs ∧ lcGo tg1 tt1 te (wipeE ρ1 vs1) (es.drop (j + 1)) = some rs1 ∧ ys = zs ++ (rs1 ++ rs2),
              fun H' q => ⟨es.length - (j + 1), by omega, rfl, hlj, q⟩, fun x6 H6 y6 => ?_⟩
            have hd6 : es[j]? = some es[j] := List.getElem?_eq_getElem hlj
            obtain ⟨G6, n6, r6⟩ := w1.yields j H5 x6 H6 es[j] G5 hd6 g45 n5.v y6
            rw [List.drop_eq_getElem_cons hlj] at e5
            unfold lcGo at e5
            cases h6 : tg1 es[j] (wipeE ρ1 vs1) with
            | none => rw [h6] at e5; cases e5
            | some ρ6 =>
            rw [h6] at e5
            dsimp only at e5
            have hD6 := n6.h _ _ hD5
            have gD6 := n6.mask gD5 hD5
            refine ⟨G6, wipeE ρ1 vs1, es[j], ρ6, n6.v, (s4.mono (g45.trans n6.g)).wipe vs1, r6, h6, fun σ7 s7 a7 => ⟨wipe_agr a7 hv1, ?_⟩⟩
            cases h7 : tt1 ρ6 with
            | none => rw [h7] at e5; cases e5
            | some b7 =>
            rw [h7] at e5
            refine ⟨G6, ρ6, b7, n6.v, s7, h7, fun G8 H8 n8 => ?_⟩
            cases b7 with
            | false => exact iteF ⟨G8, acc5, zs5, rs5, (n5.trans n6).trans n8, (g45.trans n6.g).trans n8.g, n8.mask gD6 hD6, n8.h _ _ hD6, ra5.mono (n6.g.trans n8.g), e5, ey5⟩
            | true =>
              dsimp only at e5
              cases h9 : te ρ6 with
              | none => rw [h9] at e5; cases e5
              | some yd =>
              rw [h9] at e5
              dsimp only at e5
              cases h10 : lcGo tg1 tt1 te (wipeE ρ1 vs1) (es.drop (j + 1)) with
              | none => rw [h10] at e5; cases e5
              | some rs' =>
              rw [h10] at e5
              cases e5
              have hD8 := n8.h _ _ hD6
              have gD8 := n8.mask gD6 hD6
              refine iteT ⟨G8, ρ6, yd, n8.v, s7.mono n8.g, h9, fun v G9 H9 n9 r9 => ⟨acc5, n9.h _ _ hD8, ?_, ?_⟩⟩
              · have l5 := ra5.length
                have : ys.length = zs5.length + ((rs'.length + 1) + rs2.length) := by rw [ey5, List.length_append, List.length_append, List.length_cons]
                exact Nat.lt_of_lt_of_le (show acc5.length < 1000001 by omega) (by rw [sizeLine_eq]; decide)
              · have gD9 := n9.mask gD8 hD8
                have n59 := ((n5.trans n6).trans n8).trans n9
                refine ⟨G9, acc5 ++ [v], zs5 ++ [yd], rs', ⟨fun b u q => ?_, n59.g, same_mask n59.v gD9, n59.new⟩, ((g45.trans n6.g).trans n8.g).trans n9.g, gD9, upd_same, (ra5.mono (n6.g.trans (n8.g.trans n9.g))).append (.cons r9 .nil), rfl, by rw [ey5, List.append_assoc]; rfl⟩
                rw [upd_ne (ne_of_none q hD)]
                exact n59.h b u q
          · have ej : j = es.length := by omega
            subst ej
            rw [List.drop_length] at e5
            cases e5
            exact .inl ⟨w1.stops H5 (g45.trans n5.v), G5, acc5, zs5, rs2, n5, gD5, hD5, ra5, rfl, by rw [ey5]; rfl⟩
  · have ei : i = ds.length := by omega
    subst ei
    rw [List.drop_length] at e1
    cases e1
    rw [List.append_nil] at ey
    subst ey
    refine .inl ⟨w.stops H1 (n1.g.trans n1.v), k _ (upd G1 D (.lst acc)) H1 ⟨n1.h, n1.g.trans (same_upd gD), fun b u q => ?_, fun b u q => ?_⟩ (.lst upd_same (ra.mono (same_upd gD)))⟩
    · by_cases hb : b = D
      · subst hb
        rw [upd_same] at q
        rw [hD1]
        exact q
      · rw [upd_ne hb] at q
        exact n1.v b u q
    · by_cases hb : b = D
      · subst hb
        exact .inr hD
      · rw [upd_ne hb] at q
        exact n1.new b u q
theorem lc2_lift {K : PySem.W.Frag} {R R1 : Hp → V → PyData → Prop} {ti ti1 : DA} {tgs tgs1 vs vs1 : List Nat} {tg tg1 : PyData → DEnv → Option DEnv} {tt tt1 : DT} {te : DE} (hv : ∀ i ∈ tgs, i ∈ vs) (hv1 : ∀ i ∈ tgs1, i ∈ vs1) {σ : L2.St} {H : Hp} {Q : VK} (h : liE K (dLc2 ti tg tt ti1 tg1 tt1 te vs vs1) σ H Q) :
    tLc2 (liI K R ti) (liG K R tgs tg) (liT K tt) (liI K R1 ti1) (liG K R1 tgs1 tg1) (liT K tt1) (liE K te) vs vs1 σ H Q := by
  obtain ⟨G, ρ, d, vw, s, e, k⟩ := h
  unfold dLc2 at e
  split at e
  · rename_i ds h1
    split at e
    · rename_i ys h2
      split at e
      · rename_i hz
        cases e
        exact ⟨G, ρ, ds, vw, s, h1, fun J G1 H1 n1 w D hD => lc2_data w n1.v (s.mono n1.g) hD hv hv1 hz h2 fun v G2 H2 n2 r2 => k v G2 H2 (n1.trans n2) r2⟩
      · cases e
    · cases e
  · cases e
section
variable {X : Cx} {R R1 : Hp → V → PyData → Prop} {elt tg iter tg1 iter1 : Expr} {ifs ifs1 : List Expr} {scope : Scope} {own : List (Str × Nat)} {vs1 : List Nat} {pos : Pos} {ti ti1 : DA} {tgs tgs1 : List Nat} {g g1 : PyData → DEnv → Option DEnv} {tt tt1 : DT} {te : DE}
theorem pd_lc2 (hc : X.calm = true) (hN : X.N.Nodup) (hi : PI X tg iter (liI X.K R ti)) (ok : BlkOk X.N X.env.scope scope own) (hv : ∀ i ∈ tgs, i ∈ own.map (·.2)) (hv1 : ∀ i ∈ tgs1, i ∈ vs1) (hvv : ∀ i ∈ vs1, i ∈ own.map (·.2))
    (hg : ∀ (s : Shared) (H : Hp) (C : Addr) (cl : List (Str × Addr)) (fp : List Addr), PG (X.blk s H scope (compEnvC scope cl C X.env) fp) tg (liG X.K R tgs g)) (ht : ∀ (s : Shared) (H : Hp) (C : Addr) (cl : List (Str × Addr)) (fp : List Addr), PTs (X.blk s H scope (compEnvC scope cl C X.env) fp) ifs (liT X.K tt))
    (hi1 : ∀ (s : Shared) (H : Hp) (C : Addr) (cl : List (Str × Addr)) (fp : List Addr), PI (X.blk s H scope (compEnvC scope cl C X.env) fp) tg1 iter1 (liI X.K R1 ti1))
    (hg1 : ∀ (s : Shared) (H : Hp) (C : Addr) (cl : List (Str × Addr)) (fp : List Addr), PG (X.blk s H scope (compEnvC scope cl C X.env) fp) tg1 (liG X.K R1 tgs1 g1)) (ht1 : ∀ (s : Shared) (H : Hp) (C : Addr) (cl : List (Str × Addr)) (fp : List Addr), PTs (X.blk s H scope (compEnvC scope cl C X.env) fp) ifs1 (liT X.K tt1))
    (he : ∀ (s : Shared) (H : Hp) (C : Addr) (cl : List (Str × Addr)) (fp : List Addr), PE (X.blk s H scope (compEnvC scope cl C X.env) fp) elt (liE X.K te)) (hs : ∀ x, foldedSetIterable iter X.env x = pure x := by intro _; rfl) (hs1 : ∀ env x, foldedSetIterable iter1 env x = pure x := by intro _ _; rfl) :
    PE X (.ListComp elt [⟨tg, iter, ifs, 0⟩, ⟨tg1, iter1, ifs1, 0⟩] scope pos) (liE X.K (dLc2 ti g tt ti1 g1 tt1 te (own.map (·.2)) vs1)) :=
  PE.imp (pe_lc2 hc hN hi ok hvv hg ht hi1 hg1 ht1 he hs hs1) fun _ _ _ h => lc2_lift hv hv1 h
theorem pds_setLc2 {F : List Nat} {i : Nat} {y : Str} {py spos : Pos} (hc : X.calm = true) (hN : X.N.Nodup) (hy : X.N[i]? = some y) (hyl : X.env.scope.names.lookup y = some .local)
    (hsw : swapsWith (.ListComp elt [⟨tg, iter, ifs, 0⟩, ⟨tg1, iter1, ifs1, 0⟩] scope pos) (some (.Name y py)) spos.line X.env = pure true) (hi : PI X tg iter (liI X.K R ti)) (ok : BlkOk X.N X.env.scope scope own) (hv : ∀ i ∈ tgs, i ∈ own.map (·.2)) (hv1 : ∀ i ∈ tgs1, i ∈ vs1) (hvv : ∀ i ∈ vs1, i ∈ own.map (·.2))
    (hg : ∀ (s : Shared) (H : Hp) (C : Addr) (cl : List (Str × Addr)) (fp : List Addr), PG (X.blk s H scope (compEnvC scope cl C X.env) fp) tg (liG X.K R tgs g)) (ht : ∀ (s : Shared) (H : Hp) (C : Addr) (cl : List (Str × Addr)) (fp : List Addr), PTs (X.blk s H scope (compEnvC scope cl C X.env) fp) ifs (liT X.K tt))
    (hi1 : ∀ (s : Shared) (H : Hp) (C : Addr) (cl : List (Str × Addr)) (fp : List Addr), PI (X.blk s H scope (compEnvC scope cl C X.env) fp) tg1 iter1 (liI X.K R1 ti1))
    (hg1 : ∀ (s : Shared) (H : Hp) (C : Addr) (cl : List (Str × Addr)) (fp : List Addr), PG (X.blk s H scope (compEnvC scope cl C X.env) fp) tg1 (liG X.K R1 tgs1 g1)) (ht1 : ∀ (s : Shared) (H : Hp) (C : Addr) (cl : List (Str × Addr)) (fp : List Addr), PTs (X.blk s H scope (compEnvC scope cl C X.env) fp) ifs1 (liT X.K tt1))
    (he : ∀ (s : Shared) (H : Hp) (C : Addr) (cl : List (Str × Addr)) (fp : List Addr), PE (X.blk s H scope (compEnvC scope cl C X.env) fp) elt (liE X.K te)) (hs : ∀ x, foldedSetIterable iter X.env x = pure x := by intro _; rfl) (hs1 : ∀ env x, foldedSetIterable iter1 env x = pure x := by intro _ _; rfl) (hF : i ∉ F := by decide) :
    PS X (.Assign [.Name y py] (.ListComp elt [⟨tg, iter, ifs, 0⟩, ⟨tg1, iter1, ifs1, 0⟩] scope pos) spos) (liS X.K F (dAsg i (dLc2 ti g tt ti1 g1 tt1 te (own.map (·.2)) vs1))) := PS.imp (ps_setLc2 hc hN hy hyl hsw hi ok hvv hg ht hi1 hg1 ht1 he hs hs1) fun D σ H ⟨G, ρ, o, vw, s, e, k⟩ => by
  unfold dAsg at e
  split at e
  · rename_i d h
    cases e
    exact lc2_lift hv hv1 ⟨G, ρ, d, vw, s, h, fun v G1 H1 n r => k _ G1 H1 n ((s.mono n.g).set r) (Frm.set hF)⟩
  · cases e
end
end Od
end
section
set_option maxHeartbeats 2000000
/-! OdEnum: enumerate of a tuple, zip of two tuples. -/
namespace Od
open PySem PySem.Spec PyProof.Rows L2
open PySem.Sem (wp)
/-- the tuple at a, each item in a new pair -/
def IteT (K : PySem.W.Frag) (a : Addr) : It :=
  ⟨fun i H => ∃ (xs : List V) (x : V), SqT K H a xs ∧ xs[i]? = some x, fun i H v H' => ∃ T x, v = .ref T ∧ H T = none ∧ H' = upd H T (.tup [.int (i : Nat), x]) ∧ ∀ xs, SqT K H a xs → xs[i]? = some x, fun i H => ∃ xs : List V, SqT K H a xs ∧ xs.length = i⟩
theorem turn_enumT {P : Program} {w : World} {K : PySem.W.Frag} {elts : List Expr} {kk : Nat} {tpos : Pos} (a e it : Addr) (hai : a ≠ it) (hae : a ≠ e) :
    Turn P w K (.Tuple elts kk tpos) (IteT K a) [e, it] e (fun i h => (∃ old, IsEnum h e it ((i : Nat) : Int) old) ∧ h.IsTupleIter it a i ∧ e ≠ it) where
  mem := by simp
  obj := fun i h st b hb => by
    obtain ⟨⟨old, he⟩, ⟨o, ho, hc, hd⟩, _⟩ := st
    have e' : b = e ∨ b = it := by simpa using hb
    rcases e' with z | z
    · rw [z]; exact ⟨_, he, fun v q => nomatch q⟩
    · rw [z]; exact ⟨o, ho, fun v q => by rw [hd] at q; cases q⟩
  keep := fun i h h' st k => let ⟨⟨old, he⟩, hi, hne⟩ := st; ⟨⟨old, k e (by simp) _ he⟩, hi.at fun o q => k it (by simp) o q, hne⟩
  item := by
    intro X hP hw hK hc i pins s σ H E I hf st hg
    subst hP hw hK
    obtain ⟨⟨old, he⟩, hit, hne⟩ := st
    obtain ⟨xs, x, hq, hx⟩ := hg
    obtain ⟨its, rv, p, hz⟩ := I.tuple hq
    obtain ⟨u, hu, ru⟩ := rv.get hx
    have hel : e < s.heap.objs.size := Heap.lt_size he
    have hil : it < s.heap.objs.size := by obtain ⟨_, q, _⟩ := hit; exact Heap.lt_size q
    have hlt : i < its.toArray.size := by
      have := (List.getElem?_eq_some_iff.mp hu).1
      simpa using this
    refine wpAny_pyNext_enum_itemD (Draws.tuple (prog := X.prog) (w := X.w) (A := X.A.in1) (show X.A.in1.handled = none from I.ok.hd hc) it a hai its.toArray) he ⟨hit, p⟩ hlt hne (by simp only [List.mem_cons, List.not_mem_nil, or_false, not_or]; exact ⟨hne, Ne.symm hae⟩) fun u' h' tk hu' ho hst' hT hsz hk => ?_
    have e0 : u' = u := by
      have q : its.toArray[i]? = some u := by simpa using hu
      rw [q] at hu'
      exact (Option.some.inj hu').symm
    subst e0
    refine ⟨_, rfl, wpAny_letOwnedTupleGo_enum (s := { s with heap := h', toks := tk + 1 }) ho fun h'' he' sb => ?_⟩
    have hT2 : h''.get? s.heap.objs.size = some { cls := .type "tuple", data := .seq #[.int i tk, u'] } := (sb.2 _ (Nat.ne_of_gt hel)).trans hT
    have new : ObjOk X.prog X.w (upd H s.heap.objs.size (.tup [.int (i : Nat), x])) h'' s.heap.objs.size (.tup [.int (i : Nat), x]) :=
      ⟨by show 2 ≤ sizeLine; decide, [.int i tk, u'], .cons ⟨_, rfl⟩ (.cons ru .nil), ⟨_, hT2, rfl, _, rfl⟩⟩
    have I1 : Inv X pins σ (upd H s.heap.objs.size (.tup [.int (i : Nat), x])) { s with heap := h'', toks := tk + 1 } :=
      I.turnedNew (ch := [e, it]) (fun b ob hb q => (sb.2 b (fun z => hb (by simp [z]))).trans (hk b ob (fun z => hb (by simp [z])) (fun z => hb (by simp [z])) q)) hf (Nat.le_refl _) new
    refine ⟨.ref s.heap.objs.size, _, I1, rfl, ⟨_, x, rfl, I.hok.fresh (Nat.le_refl _), rfl, fun ys hy => by rw [I.tuple_inj hy hq]; exact hx⟩, ⟨⟨u', ?_⟩, hst'.1.at fun o q => (sb.2 it (Ne.symm hne)).trans q, hne⟩, fun b hb => ?_⟩
    · have e1 : ((i + 1 : Nat) : Int) = (i : Int) + 1 := by omega
      rw [e1]; exact he'
    · have hb' : b < s.heap.objs.size := by
        have e' : b = e ∨ b = it := by simpa using hb
        rcases e' with z | z
        · rw [z]; exact hel
        · rw [z]; exact hil
      rw [upd_ne (Nat.ne_of_lt hb')]
      exact (hf b hb).1
  done := by
    intro X hP hw hK hc i pins s σ H E I hf st hg
    subst hP hw hK
    obtain ⟨⟨old, he⟩, hit, hne⟩ := st
    obtain ⟨xs, hq, hx⟩ := hg
    obtain ⟨its, rv, p, hz⟩ := I.tuple hq
    obtain ⟨f0, f1, f2, f3, f4, f5⟩ := hf it (by simp)
    have hl := rv.length
    have hn : its.toArray.size = i := by simp only [List.size_toArray]; omega
    refine wpAny_pyNext_enum_endD (n := its.toArray.size) (Draws.tuple (prog := X.prog) (w := X.w) (A := X.A.in1) (show X.A.in1.handled = none from I.ok.hd hc) it a hai its.toArray) he ⟨by rw [hn]; exact hit, p⟩ fun h' eb => ⟨rfl, I.turned (t' := s.toks) (fun b o hb q => eb b o hb q) f0 f1 f3 f4 f5⟩
  self := fun A i s Q E st h => let ⟨⟨_, he⟩, _⟩ := st; wpAny_pyIter_enum he h
theorem meets_enumerate_newB1 {v : Value} {o : Obj} {H : Heap → Prop} (B : Begins v o H) :
    Meets (Builtin.«enumerate.__new__» ⟨[.type "enumerate", v], []⟩) (fun _ R s => H s.heap ∧
      R (.ok (.ret (.ref (s.heap.push o).objs.size))) { s with heap := (s.heap.push o).push { cls := .type "enumerate", data := .fields #[.none, .bool false, .ref s.heap.objs.size, rawInt 0, .none, .none] } }) :=
  .of_wp fun prog w A R s h => by
    obtain ⟨hp, g, d, tk, os⟩ := s; obtain ⟨h1, h⟩ := h
    have hsub := sub_enumerate
    have q1 : ∀ {A' : Around} {E : Value → Shared → Prop} {Q : Value → Shared → Prop}, Q (.ref hp.objs.size) ⟨hp.push o, g, d, tk, os⟩ → wpAny (model prog w) A' (pyIter v) Q E ⟨hp, g, d, tk, os⟩ :=
      fun q => B.iter prog w _ _ ⟨hp, g, d, tk, os⟩ _ h1 q
    wp_walk using q1
    refine wpAny_stack_any fun st => wpAny_pure ?_
    split
    · rename_i c _ _ _ _ _
      cases (c == Value.type "enumerate")
      · wp_walk using q1
        exact ⟨_, rfl, h⟩
      · wp_walk using q1
        exact ⟨_, rfl, h⟩
    · wp_walk using q1
      exact ⟨_, rfl, h⟩
section
variable {prog : Program} {w : World} {A : Around} {E : Value → Shared → Prop} {s : Shared}
theorem enum_begins1 {v : Value} {o : Obj} {H : Heap → Prop} {Q : Value → Shared → Prop} (B : Begins v o H) (h1 : H s.heap)
    (h : ∀ h', IsEnum h' (s.heap.objs.size + 1) s.heap.objs.size 0 .none → h'.get? s.heap.objs.size = some o → h'.objs.size = s.heap.objs.size + 2 →
      (∀ b o, s.heap.get? b = some o → h'.get? b = some o) → Q (.ref (s.heap.objs.size + 1)) { s with heap := h' }) :
    wpAny (model prog w) A (call (.type "enumerate") [v]) Q E s := by
  refine callType_new F.called_enumerate (by decide) (F.typeCall_enumerate_1 _) (F.newCall_enumerate_1 _) (fun obj => F.args_object_init_2 obj _) F.entry_enumerate_new
    (meets_enumerate_newB1 B) ⟨h1, ?_⟩
  have hz : (s.heap.push o).objs.size = s.heap.objs.size + 1 := Heap.size_push ..
  show _ ∧ _
  rw [hz]
  have he : IsEnum ((s.heap.push o).push { cls := .type "enumerate", data := .fields #[.none, .bool false, .ref s.heap.objs.size, rawInt 0, .none, .none] }) (s.heap.objs.size + 1) s.heap.objs.size 0 .none := by
    have := Heap.get?_push_size (s.heap.push o) (o := { cls := .type "enumerate", data := .fields #[.none, .bool false, .ref s.heap.objs.size, rawInt 0, .none, .none] }) rfl
    rw [hz] at this; exact this
  refine ⟨⟨_, he, rfl⟩, h _ he (Heap.get?_push_of_some _ (Heap.get?_push_size _ B.free)) (by rw [Heap.size_push, hz]) fun b o x => Heap.get?_push_of_some _ (Heap.get?_push_of_some _ x)⟩
end
def iEnumA (K : PySem.W.Frag) (ta : TA) : TI := fun σ H R => ta σ H fun vs H1 => ∃ a xs, vs = [.ref a] ∧ ((SqL K H1 a xs ∧ R (Ite K a) H1) ∨ (SqT K H1 a xs ∧ R (IteT K a) H1))
theorem pi_enumA {X : Cx} {e : Expr} {ta : TA} {p pos tpos : Pos} {elts : List Expr} {kk : Nat} (hg : Gl X "enumerate") (hm : X.mg "enumerate" = none) (ha : PA X [e] ta) (hs : starEach [e] X.env = [(false, eval e X.env)] := by rfl) :
    PI X (.Tuple elts kk tpos) (.Call (.Name "enumerate" p) [e] [] pos) (iEnumA X.K ta) := by
  refine ⟨fun pins s σ H R I h => ?_⟩
  refine Call_ (ld_blt I hg hm boot_enumerate (PyProof.Rows.callWith_type1 (thn (ha.run pos pins s σ H _ I h) fun us s1 ⟨vs, H1, I1, r1, q1⟩ => ?_) hs rfl))
  obtain ⟨a, xs, ex, q⟩ := q1
  subst ex
  have fresh2 : ∀ b ∈ [s1.heap.objs.size + 1, s1.heap.objs.size], FpOk X pins H1 b := fun b hb => by
    have e' : b = s1.heap.objs.size + 1 ∨ b = s1.heap.objs.size := by simpa using hb
    have hle : s1.heap.objs.size ≤ b := by
      rcases e' with z | z
      · rw [z]; exact Nat.le_add_right _ _
      · rw [z]; exact Nat.le_refl _
    exact I1.fpOk hle (I1.hok.fresh hle)
  cases r1 with
  | cons r rr =>
    cases rr
    cases r
    rcases q with ⟨hq, q⟩ | ⟨hq, q⟩
    · obtain ⟨its, rv, p', hz⟩ := I1.list hq
      refine call_enumerate_list p'.isList fun h' he hit hsz hk => wpAny_pyIter_enum he ?_
      have I2 : Inv X pins σ H1 { s1 with heap := h' } := I1.kept (t' := s1.toks) hk
      exact ⟨s1.heap.objs.size + 1, [s1.heap.objs.size + 1, s1.heap.objs.size], _, _, H1, rfl, I2, turn_enum a (s1.heap.objs.size + 1) s1.heap.objs.size, ⟨⟨.none, he⟩, hit, Nat.succ_ne_self _⟩, fresh2, q⟩
    · obtain ⟨its, rv, p', hz⟩ := I1.tuple hq
      have hal : a < s1.heap.objs.size := by obtain ⟨o, ho, _⟩ := id p'; exact Heap.lt_size ho
      refine enum_begins1 (begins_tuple a its.toArray) (show s1.heap.IsTuple a its.toArray from p') fun h' he hit hsz hk => wpAny_pyIter_enum he ?_
      have I2 : Inv X pins σ H1 { s1 with heap := h' } := I1.kept (t' := s1.toks) hk
      exact ⟨s1.heap.objs.size + 1, [s1.heap.objs.size + 1, s1.heap.objs.size], _, _, H1, rfl, I2, turn_enumT a (s1.heap.objs.size + 1) s1.heap.objs.size (Nat.ne_of_lt hal) (Nat.ne_of_lt (Nat.lt_succ_of_lt hal)), ⟨⟨.none, he⟩, ⟨_, hit, rfl, rfl⟩, Nat.succ_ne_self _⟩, fresh2, q⟩
theorem walk_enumT {K : PySem.W.Frag} {a : Addr} {xs : List V} : Walk (IteT K a) xs.length (fun H => SqT K H a xs) (YPair (fun i => some (.int (i : Nat))) (fun i => xs[i]?)) := by
  refine ⟨fun i _ hi q => ⟨xs, xs[i], q, by simp [hi]⟩, fun _ q => ⟨xs, q, rfl⟩, fun i H v H' _ q y => ?_⟩
  obtain ⟨T, x, h1, h2, h3, h4⟩ := y
  exact ⟨T, .int (i : Nat), x, h1, h2, h3, rfl, h4 xs q⟩
theorem walk_zipT {K : PySem.W.Frag} {a b : Addr} {xs ys : List V} {n : Nat} (hn : n = min xs.length ys.length) : Walk (RZ.ItzT K a b) n (fun H => SqT K H a xs ∧ SqT K H b ys) (YPair (fun i => xs[i]?) (fun i => ys[i]?)) := by
  subst hn
  refine ⟨fun i _ hi q => ?_, fun _ q => ⟨xs, ys, q.1, q.2, by omega⟩, fun i H v H' _ q y => ?_⟩
  · have h1 : i < xs.length := by omega
    have h2 : i < ys.length := by omega
    exact ⟨xs, ys, xs[i], ys[i], q.1, q.2, by simp [h1], by simp [h2]⟩
  · obtain ⟨T, x, z, h1, h2, h3, h4, h5⟩ := y
    exact ⟨T, x, z, h1, h2, h3, h4 xs q.1, h5 ys q.2⟩
section
variable {K : PySem.W.Frag} {G H : Hp} {a b : Addr} {xs ys : List V} {ds es : List PyData}
theorem walkD_enumT (h : TupF G a xs) (r : RpAll K G xs ds) : WalkD (WRp K) (IteT K a) (enumOf 0 ds) G := by
  refine walkD_pair (walk_enumT (K := K) (a := a) (xs := xs)) (by rw [enum_len, r.length]) (fun _ s => (h.mono s).sq) fun i p x y hp hx hy => ?_
  obtain ⟨d, h1, rfl⟩ := enum_get hp
  cases hx
  obtain ⟨v, h3, h4⟩ := r.get h1
  rw [hy] at h3
  cases h3
  exact ⟨_, _, rfl, by rw [Nat.zero_add]; exact .int _, h4⟩
theorem walkD_zipT (h : TupF G a xs) (h' : TupF G b ys) (r : RpAll K G xs ds) (r' : RpAll K G ys es) : WalkD (WRp K) (RZ.ItzT K a b) (pairsOf ds es) G := by
  refine walkD_pair (walk_zipT (K := K) (a := a) (b := b) (xs := xs) (ys := ys) rfl) (by rw [pairs_len, r.length, r'.length]) (fun _ s => ⟨(h.mono s).sq, (h'.mono s).sq⟩) fun i p x y hp hx hy => ?_
  obtain ⟨d, e, h1, h2, rfl⟩ := pairs_get hp
  obtain ⟨v, h3, h4⟩ := r.get h1
  obtain ⟨w, h5, h6⟩ := r'.get h2
  rw [hx] at h3
  cases h3
  rw [hy] at h5
  cases h5
  exact ⟨_, _, rfl, h4, h6⟩
end
def dEnumA (t : DE) : DA := fun ρ => match t ρ with
  | some (.list ds) => some (enumOf 0 ds)
  | some (.tuple ds) => some (enumOf 0 ds)
  | _ => none
section
variable {X : Cx} {tg e e2 : Expr} {t u : DE} {p pos tpos : Pos} {elts : List Expr} {kk : Nat}
theorem pdi_enumA (hg : Gl X "enumerate") (hm : X.mg "enumerate" = none) (ha : PE X e (liE X.K t)) (hs : starEach [e] X.env = [(false, eval e X.env)] := by rfl) :
    PI X (.Tuple elts kk tpos) (.Call (.Name "enumerate" p) [e] [] pos) (liI X.K (WRp X.K) (dEnumA t)) := PI.imp (pi_enumA hg hm (pa_cons ha pa_nil (by rw [hs] <;> rfl)) hs) fun σ H R ⟨G, ρ, ds, vw, sl, e1, k⟩ => by
  unfold dEnumA at e1
  split at e1
  · rename_i ds h1
    cases e1
    refine ⟨G, ρ, _, vw, sl, h1, fun v G1 H1 n1 r1 => ?_⟩
    cases r1 with
    | lst ha r => exact ⟨_, _, rfl, .inl ⟨SqL.of (n1.v _ _ ha), k _ G1 H1 n1 (walkD_enum ha r)⟩⟩
  · rename_i ds h1
    cases e1
    refine ⟨G, ρ, _, vw, sl, h1, fun v G1 H1 n1 r1 => ?_⟩
    cases r1 with
    | tup ha r => exact ⟨_, _, rfl, .inr ⟨(ha.mono n1.v).sq, k _ G1 H1 n1 (walkD_enumT ha r)⟩⟩
  · cases e1
theorem pdi_zip (hg : Gl X "zip") (hm : X.mg "zip" = none) (ha : PE X e (liE X.K t)) (hb : PE X e2 (liE X.K u)) (hs : starEach [e, e2] X.env = (false, eval e X.env) :: starEach [e2] X.env := by rfl) (hs2 : starEach [e2] X.env = (false, eval e2 X.env) :: starEach [] X.env := by rfl) (hpl : (backTo pos (starEach [e2] X.env)).any (·.1) = false := by rfl) :
    PI X (.Tuple elts kk tpos) (.Call (.Name "zip" p) [e, e2] [] pos) (liI X.K (WRp X.K) (dZip t u)) := PI.imp (RZ.pi_zipA hg hm (pa_cons ha (pa_cons hb pa_nil hs2) hs) hs hpl) fun σ H R ⟨G, ρ, ds, vw, sl, e1, k⟩ => by
  unfold dZip at e1
  split at e1
  · rename_i xs h1
    split at e1
    · rename_i ys h2
      cases e1
      refine ⟨G, ρ, _, vw, sl, h1, fun v G1 H1 n1 r1 => ⟨G1, ρ, _, n1.v, sl.mono n1.g, h2, fun w G2 H2 n2 r2 => ?_⟩⟩
      have r1 := r1.mono n2.g
      cases r1 with
      | lst ha r =>
        cases r2 with
        | lst hb r' => exact ⟨_, _, _, _, rfl, .inl ⟨SqL.of (n2.v _ _ ha), SqL.of (n2.v _ _ hb), k _ G2 H2 (n1.trans n2) (walkD_zip ha hb r r')⟩⟩
    · cases e1
  · rename_i xs h1
    split at e1
    · rename_i ys h2
      cases e1
      refine ⟨G, ρ, _, vw, sl, h1, fun v G1 H1 n1 r1 => ⟨G1, ρ, _, n1.v, sl.mono n1.g, h2, fun w G2 H2 n2 r2 => ?_⟩⟩
      have r1 := r1.mono n2.g
      cases r1 with
      | tup ha r =>
        cases r2 with
        | tup hb r' => exact ⟨_, _, _, _, rfl, .inr ⟨(ha.mono n2.v).sq, (hb.mono n2.v).sq, k _ G2 H2 (n1.trans n2) (walkD_zipT ha hb r r')⟩⟩
    · cases e1
  · cases e1
end
end Od
end
section
set_option maxHeartbeats 2000000
/-! OdDict: dicts whose keys are texts. -/
namespace Od
open PySem PySem.Spec PyProof.Rows L2
abbrev Es := List (PyData × PyData)
def getE : Es → Str → Option PyData
  | [], _ => none
  | (.str y, d) :: r, x => if y = x then some d else getE r x
  | _ :: r, x => getE r x
def setE : Es → Str → PyData → Es
  | [], _, _ => []
  | (.str y, e) :: r, x, d => (.str y, if y = x then d else e) :: setE r x d
  | p :: r, x, d => p :: setE r x d
def putE (es : Es) (x : Str) (d : PyData) : Es := match getE es x with
  | some _ => setE es x d
  | none => es ++ [(.str x, d)]
def mergeE (es : Es) : Es → Es
  | [] => es
  | (.str x, d) :: r => mergeE (putE es x d) r
  | _ :: r => mergeE es r
def pairKv : List PyData → Option Es
  | [] => some []
  | .tuple [.str x, d] :: r => match pairKv r with
    | some es => some ((.str x, d) :: es)
    | none => none
  | _ :: _ => none
def dgetD : PyData → PyData → Option PyData
  | .dict es, .str x => getE es x
  | _, _ => none
def dictD : List PyData → Option PyData
  | [.tuple ps] => if ps.length ≤ 1000000 then match pairKv ps with
    | some es => some (.dict (mergeE [] es))
    | none => none
    else none
  | [.dict es] => some (.dict es)
  | _ => none
section
variable {K : PySem.W.Frag} {G : Hp}
theorem RpKv.length : ∀ {kvs : List (Key × V)} {es : Es}, RpKv K G kvs es → kvs.length = es.length
  | _, _, .nil => rfl
  | _, _, .cons _ r => congrArg (· + 1) r.length
theorem RpKv.get : ∀ {kvs : List (Key × V)} {es : Es} {x : Str} {d : PyData}, RpKv K G kvs es → getE es x = some d → ∃ v, valV kvs (.inr x) = some v ∧ Rp K G v d
  | _, _, x, d, .nil, e => by cases e
  | _, _, x, d, .cons (x := y) (v := w) h r, e => by
    unfold getE at e
    by_cases c : y = x
    · rw [if_pos c] at e
      cases e
      exact ⟨w, valV_pos (by rw [c]), h⟩
    · rw [if_neg c] at e
      obtain ⟨v, h1, h2⟩ := r.get e
      exact ⟨v, by rw [valV_neg (fun z => c (Sum.inr.inj z))]; exact h1, h2⟩
theorem RpKv.get_none : ∀ {kvs : List (Key × V)} {es : Es} {x : Str}, RpKv K G kvs es → getE es x = none → valV kvs (.inr x) = none
  | _, _, x, .nil, e => rfl
  | _, _, x, .cons (x := y) (v := w) h r, e => by
    unfold getE at e
    by_cases c : y = x
    · rw [if_pos c] at e
      cases e
    · rw [if_neg c] at e
      rw [valV_neg (fun z => c (Sum.inr.inj z))]
      exact r.get_none e
theorem RpKv.set_ : ∀ {kvs : List (Key × V)} {es : Es} {x : Str} {v : V} {d : PyData}, RpKv K G kvs es → Rp K G v d → RpKv K G (kvs.map fun kv => if kv.1 = .inr x then (kv.1, v) else kv) (setE es x d)
  | _, _, x, v, d, .nil, h => .nil
  | _, _, x, v, d, .cons (x := y) (v := w) h r, h' => by
    rw [List.map_cons]
    unfold setE
    by_cases c : y = x
    · rw [if_pos (by rw [c]), if_pos c]
      exact .cons h' (r.set_ h')
    · rw [if_neg (fun z => c (Sum.inr.inj z)), if_neg c]
      exact .cons h (r.set_ h')
theorem RpKv.append : ∀ {ks ls : List (Key × V)} {es fs : Es}, RpKv K G ks es → RpKv K G ls fs → RpKv K G (ks ++ ls) (es ++ fs)
  | _, _, _, _, .nil, s => s
  | _, _, _, _, .cons h r, s => .cons h (r.append s)
theorem RpKv.put {kvs : List (Key × V)} {es : Es} {x : Str} {v : V} {d : PyData} (r : RpKv K G kvs es) (h : Rp K G v d) : RpKv K G (putK kvs (.inr x) v) (putE es x d) := by
  unfold putK putE
  rw [valV_any]
  cases q : getE es x with
  | some e =>
    obtain ⟨w, h1, _⟩ := r.get q
    rw [h1]
    exact r.set_ h
  | none =>
    rw [r.get_none q]
    exact r.append (.cons h .nil)
theorem RpKv.merge : ∀ {ks ls : List (Key × V)} {es fs : Es}, RpKv K G ks es → RpKv K G ls fs → RpKv K G (mergeK ks ls) (mergeE es fs)
  | _, _, _, _, r, .nil => r
  | ks, _, es, _, r, .cons (x := x) (v := v) (d := d) (kvs := kvs) (es := fs) h t => by
    show RpKv K G (mergeK (putK ks (.inr x) v) kvs) (mergeE (putE es x d) fs)
    exact RpKv.merge (r.put h) t
theorem pair_kv : ∀ {xs : List V} {ps : List PyData} {es : Es}, RpAll K G xs ps → pairKv ps = some es → ∃ (bs : List Addr) (kvs : List (Key × V)), xs = bs.map V.ref ∧ Paired (fun p kv => TupF G p [kV kv.1, kv.2]) bs kvs ∧ RpKv K G kvs es
  | _, _, _, .nil, e => by
    cases e
    exact ⟨[], [], rfl, .nil, .nil⟩
  | _, _, es, .cons (d := d) h r, e => by
    unfold pairKv at e
    split at e
    · rename_i h0
      cases h0
    · rename_i x d' r' h0
      cases h0
      split at e
      · rename_i es' h1
        cases e
        obtain ⟨bs, kvs, e1, p, q⟩ := pair_kv r h1
        cases h with
        | tup ha ra =>
          cases ra with
          | cons h1 ra =>
            cases ra with
            | cons h2 ra =>
              cases ra
              cases h1
              exact ⟨_ :: bs, (.inr x, _) :: kvs, by rw [e1, List.map_cons], .cons ha p, .cons h2 q⟩
      · cases e
    · cases e
end
section
variable {X : Cx}
theorem pairs_of' {pins : List (Addr × Obj)} {σ : L2.St} {H : Hp} {s : Shared} (I : Inv X pins σ H s) : ∀ {bs : List Addr} {kvs : List (Key × V)}, Paired (fun p kv => SqT X.K H p [kV kv.1, kv.2]) bs kvs →
    ∃ (prs : List (Key × Value)) (pvs : List (Value × Value)), KV kvs prs ∧ prs.length = bs.length ∧ pvs.length = bs.length ∧ ∀ (j : Nat) (k v : Value), pvs[j]? = some (k, v) → ∃ (b : Addr) (kk : Key), bs[j]? = some b ∧ s.heap.IsTuple b #[k, v] ∧ prs[j]? = some (kk, v) ∧ (mixKind X.prog X.w).is kk k = true
  | _, _, .nil => ⟨[], [], .nil, rfl, rfl, fun j k v e => by simp at e⟩
  | _, _, .cons (a := p) (b := kv) h t => by
    obtain ⟨prs, pvs, r, hl, hl2, hp⟩ := pairs_of' I t
    obtain ⟨its, rv, ht, _⟩ := I.tuple h
    obtain ⟨u, y, ei, ru, ry⟩ := vals2 rv
    subst ei
    refine ⟨(kv.1, y) :: prs, (u, y) :: pvs, .cons ⟨rfl, ry⟩ r, by rw [List.length_cons, List.length_cons, hl], by rw [List.length_cons, List.length_cons, hl2], fun j k v e => ?_⟩
    cases j with
    | zero =>
      cases e
      exact ⟨p, kv.1, rfl, ht, rfl, kV_is (P := X.prog) (w := X.w) ru⟩
    | succ j =>
      obtain ⟨b, kk, e1, e2, e3, e4⟩ := hp j k v (by simpa using e)
      exact ⟨b, kk, by simpa using e1, e2, by simpa using e3, e4⟩
theorem paired_imp {α β : Type} {R S : α → β → Prop} (h : ∀ a b, R a b → S a b) : ∀ {as : List α} {bs : List β}, Paired R as bs → Paired S as bs
  | _, _, .nil => .nil
  | _, _, .cons a b => .cons (h _ _ a) (paired_imp h b)
theorem call_dictT (hcalm : X.calm = true) : CallR X (.type "dict") (fun xs H Q => ∃ (a : Addr) (bs : List Addr) (kvs : List (Key × V)), xs = [.ref a] ∧ TupF H a (bs.map V.ref) ∧ Paired (fun p kv => SqT X.K H p [kV kv.1, kv.2]) bs kvs ∧
    ∀ p, H p = none → Q (.ref p) (upd H p (.dK (mergeK [] kvs)))) := by
  intro pins s σ H xs us Q I r q
  obtain ⟨a, bs, kvs, ex, hq, hp, q⟩ := q
  subst ex
  obtain ⟨u, eu, rx⟩ := vals1 r
  subst eu
  cases rx
  obtain ⟨its, rv, pl, hz⟩ := I.tuple hq.sq
  have ei := refs_at rv
  subst ei
  obtain ⟨prs, pvs, rel, hl, hl2, hpr⟩ := pairs_of' I hp
  obtain ⟨ob, hdn, hob⟩ := hq
  have hget := (I.hok a _ hob).1
  obtain ⟨o, ho, hc, n, hdat⟩ := pl
  have eo : o = ob := by
    rw [hget] at ho
    exact (Option.some.inj ho).symm
  subst eo
  have hPI : PairItems s.heap (bs.map Value.ref).toArray (fun j => (bs[j]?).getD 0) pvs := by
    refine ⟨by simp [hl2], fun j k v e => ?_⟩
    obtain ⟨b, kk, e1, e2, e3, e4⟩ := hpr j k v e
    refine ⟨by simp [e1], ?_⟩
    show PairAt s.heap ((bs[j]?).getD 0) k v
    rw [e1]
    exact .inl e2
  refine PySem.call_dict_pairs (knd := mixKind X.prog X.w) (kvs := prs) (PairArg.tuple a (bs.map Value.ref).toArray (fun j => (bs[j]?).getD 0) pvs) (I.ok.hd hcalm) ⟨⟨o, n, ho, hc, hdn, hdat⟩, hPI⟩ ⟨by rw [hl, hl2], fun i key v e => ?_⟩ (by rw [hl2]; simpa using hz) fun h' tk hd' k => ?_
  · obtain ⟨b, kk, e1, e2, e3, e4⟩ := hpr i key v e
    exact ⟨kk, e3, e4⟩
  · have hm : (s.heap.objs.size == sysModules) = false := beq_eq_false_iff_ne.mpr (Nat.ne_of_gt I.big)
    have hlen : (mergeK [] kvs).length ≤ sizeLine := by
      refine Nat.le_trans (length_mergeK kvs []) ?_
      rw [List.length_nil, Nat.zero_add, rel.length, hl]
      simpa using hz
    exact ⟨.ref s.heap.objs.size, upd H s.heap.objs.size (.dK (mergeK [] kvs)), I.laid (t' := tk) (fun b o e => k b o (by simp) e) (Nat.le_refl _) (show ObjOk X.prog X.w _ _ _ (.dK (mergeK [] kvs)) from ⟨hlen, hm, merged [] prs, KV.merge rel .nil, hd'⟩), rfl, q _ (I.hok.fresh (Nat.le_refl _))⟩
theorem call_dictD (hc : X.calm = true) : CallR X (.type "dict") (rDn X.K dictD) := by
  intro pins s σ H xs us Q I r h
  obtain ⟨G, ds, d, vw, hx, e, k⟩ := h
  unfold dictD at e
  split at e
  · rename_i ps
    split at e
    · split at e
      · rename_i es he
        cases e
        obtain ⟨v, rfl, h⟩ := one_rp hx
        cases h with
        | @tup a ys _ ha ra =>
          obtain ⟨bs, kvs, rfl, hp, hkv⟩ := pair_kv ra he
          refine call_dictT hc pins s σ H _ us Q I r ⟨a, bs, kvs, rfl, ha.mono vw, paired_imp (fun (p : Addr) (kv : Key × V) (t : TupF G p [kV kv.1, kv.2]) => (t.mono vw).sq) hp, fun p hp' => ?_⟩
          exact k _ _ _ (Nxt.upd vw hp') (.dic upd_same (RpKv.mono (same_upd (vw.free hp')) (RpKv.merge (K := X.K) (G := G) .nil hkv)))
      · cases e
    · cases e
  · cases e
    obtain ⟨v, rfl, h⟩ := one_rp hx
    cases h with
    | dic ha ra =>
      obtain ⟨u, rfl, rx⟩ := vals1 r
      cases rx
      exact d_copyOf I (.inl (vw _ _ ha)) fun p s' hp I' => ⟨.ref p, _, I', rfl, k _ _ _ (Nxt.upd vw hp) (.dic upd_same (RpKv.mono (same_upd (vw.free hp)) ra))⟩
  · cases e
variable {o i : Expr} {pos : Pos} {t u : DE}
theorem pd_dget (hu : X.A.units + 1 < cLine) (ho : PE X o (liE X.K t)) (hi : PE X i (liE X.K u)) (hs : NoSl i := by exact fun _ _ => rfl) : PE X (.Subscript o i pos) (liE X.K (d2 dgetD t u)) :=
  PE.imp (pe_dget hu ho hi hs) fun σ H Q ⟨G, ρ, d, vw, s, e, k⟩ => by
    unfold d2 at e
    cases h1 : t ρ with
    | none => rw [h1] at e; cases e
    | some x =>
      cases h2 : u ρ with
      | none => rw [h1, h2] at e; cases e
      | some y =>
        rw [h1, h2] at e
        have e' : dgetD x y = some d := e
        unfold dgetD at e'
        split at e'
        · rename_i es x
          refine ⟨G, ρ, _, vw, s, h1, fun v G1 H1 n1 r1 => ⟨G1, ρ, _, n1.v, s.mono n1.g, h2, fun w G2 H2 n2 r2 => ?_⟩⟩
          have r1 := r1.mono n2.g
          cases r1 with
          | dic ha ra =>
            cases r2
            obtain ⟨v, h3, h4⟩ := ra.get e'
            exact ⟨_, v, rfl, by rw [← h3]; exact DGet.k (k := .inr x) (n2.v _ _ ha), k v G2 H2 (n1.trans n2) h4⟩
        · cases e'
end
end Od
end
section
set_option maxHeartbeats 2000000
/-! OdDisp0: a display with a starred dict, at the library's level. -/
namespace Od
open PySem
open PySem.Sem (wp)
section
variable {prog : Program} {w : World} {K : Type} [DecidableEq K] {knd : KeyKind prog w K} {A : Around} {E : Value → Shared → Prop} {s : Shared}
theorem wpAny_dictPut {d : Addr} {kvs : List (K × Value)} {k : K} {key v : Value} {Q : Unit → Shared → Prop} (hk : knd.is k key = true) (hd : s.heap.DictOf knd d kvs) (hz : kvs.length ≤ sizeLine)
    (hQ : ∀ h', h'.DictOf knd d (stored kvs k v) → Heap.SameBut d s.heap h' → Q () { s with heap := h' }) : wpAny (model prog w) A (dictPut d (knd.hash k) key v) Q E s := by
  obtain ⟨ob, es, ep, at_, exact_, dat, keys, pairs, nd⟩ := hd
  have size : es.size ≤ sizeLine := by
    have q := pairs.length
    rw [Array.length_toList] at q
    omega
  unfold dictPut
  refine wpAny_bind (wpAny_dictFind_of hk at_ dat keys ?_)
  have place : (kvs.findIdx? fun kv => decide (kv.1 = k)) = es.findIdx? fun e => knd.is k e.key := by
    have q := pairs.findIdx k
    cases es
    simpa using q.symm
  cases found : es.findIdx? fun e => knd.is k e.key with
  | none =>
    rw [found] at place
    have fresh := not_mem_of_findIdx_none place
    have none_ : ¬ (kvs.any fun kv => decide (kv.1 = k)) = true := fun z => by
      obtain ⟨p, hp, he⟩ := List.any_eq_true.mp z
      exact fresh (List.mem_map.mpr ⟨p, hp, of_decide_eq_true he⟩)
    refine wpAny_updateDictKeys (hz := size) at_ dat (hQ _ ⟨_, _, ep + 1, Heap.get?_update_self _ at_ (Obj.isFreed_of_dict (Obj.data_mapDictKeys dat _)), exact_.mapDictKeys _, Obj.data_mapDictKeys dat _, keys.push hk _, ?_, ?_⟩ (Heap.SameBut.update ..))
    · unfold stored
      rw [if_neg none_]
      have q := pairs.append hk (knd.hash k) v
      cases es
      simpa using q
    · unfold stored
      rw [if_neg none_, List.map_append]
      refine List.nodup_append.mpr ⟨nd, by simp, fun a ha b hb z => ?_⟩
      have eb : b = k := by simpa using hb
      exact fresh (by rw [← eb, ← z]; exact ha)
  | some i =>
    rw [found] at place
    have there := any_of_findIdx_some place
    refine wpAny_updateDict at_ dat (hQ _ ⟨_, _, ep, Heap.get?_update_self _ at_ (Obj.isFreed_of_dict (Obj.data_mapDict dat _)), exact_.mapDict _, Obj.data_mapDict dat _, keys.modify _ _, ?_, ?_⟩ (Heap.SameBut.update ..))
    · unfold stored
      rw [if_pos there]
      have q : (es.toList.findIdx? fun e => knd.is k e.key) = some i := by
        rw [← found]
        cases es
        simp
      have q2 := pairs.modify nd q v
      cases es
      simpa using q2
    · unfold stored
      rw [if_pos there, keys_map_store]
      exact nd
theorem wpAny_mergeMapping {d o : Addr} {kvs more : List (K × Value)} {Q : Unit → Shared → Prop} (apart : d ≠ o) (notSys : (o == sysModules) = false) (hd : s.heap.DictOf knd d kvs) (ho : s.heap.DictOf knd o more) (hz : kvs.length + more.length ≤ sizeLine)
    (hQ : ∀ h', h'.DictOf knd d (merged kvs more) → Heap.SameBut d s.heap h' → Q () { s with heap := h' }) : wpAny (model prog w) A (mergeMapping d (.ref o) false) Q E s := by
  obtain ⟨ob, es, ep, at_, exact_, dat, keys, pairs, nd⟩ := id ho
  obtain ⟨ob1, es1, ep1, at1, exact1, dat1, keys1, pairs1, nd1⟩ := id hd
  have size : more.length = es.size := by
    have q := pairs.length
    rw [Array.length_toList] at q
    omega
  unfold mergeMapping
  refine wpAny_bind (wpAny_isInstance ho.typeIs PySem.F.sub_dict_dict ?_)
  rw [if_pos rfl]
  refine wpAny_bind (wpAny_specialOf ho.typeIs F.slot_dict_iter.lookup (wpAny_bind (wpAny_pure ?_)))
  simp only [beq_self_eq_true]
  rw [if_neg (by rw [notSys]; exact Bool.false_ne_true)]
  refine wpAny_bind (wpAny_dictEntries at1 dat1 ?_)
  have main : wpAny (model prog w) A (do
      let l ← dictEntries o
      let epoch ← dictEpoch o
      forIn (List.range l.size) PUnit.unit fun i (_ : PUnit) => (do
          let l2 ← dictEntries o
          match l2[i]? with
            | some e => do
              holding [e.key, e.val]
                  (if false = true then do
                    let f ← dictFind d e.key e.hash
                    if f.isSome = true then do
                        rule "dict.merge.duplicate-key"
                        let x ← newExc (Value.type "KeyError") [e.key]
                        (raiseNew x : Sem PUnit)
                        dictPut d e.hash e.key e.val
                      else dictPut d e.hash e.key e.val
                  else dictPut d e.hash e.key e.val)
              let ep' ← dictEpoch o
              if (ep' != epoch) = true then do
                  (unsupported "dict.changed-during-merge" : Sem PUnit)
                  pure (ForInStep.yield PUnit.unit)
                else pure (ForInStep.yield PUnit.unit)
            | _ => do
              (unsupported "dict.changed-during-merge" : Sem PUnit)
              pure (ForInStep.yield PUnit.unit) : Sem (ForInStep PUnit))
      pure ()) Q E s := by
    refine wpAny_bind (wpAny_dictEntries at_ dat (wpAny_bind (wpAny_dictEpoch at_ dat (wpAny_bind ?_))))
    rw [List.range_eq_range']
    refine wpAny_forIn_list _ (fun rest _ s' => ∃ h' i, s' = { s with heap := h' } ∧ i ≤ es.size ∧ rest = List.range' i (es.size - i) ∧ h'.DictOf knd d (merged kvs (more.take i)) ∧ h'.get? o = some ob ∧ Heap.SameBut d s.heap h') _
      ?_ ?_ _ _ ⟨s.heap, 0, rfl, Nat.zero_le _, rfl, by simpa [merged] using hd, at_, Heap.SameBut.refl _ _⟩
    · rintro x rest b s' ⟨h', i, rfl, hi, hr, hd', at', same⟩
      obtain ⟨lt, rfl, rr⟩ : i < es.size ∧ x = i ∧ rest = List.range' (i + 1) (es.size - (i + 1)) := by
        cases q : es.size - i with
        | zero => rw [q] at hr; simp at hr
        | succ m =>
          rw [q, List.range'_succ] at hr
          injection hr with h1 h2
          exact ⟨by omega, h1, by rw [h2, show es.size - (i + 1) = m by omega]⟩
      refine wpAny_bind (wpAny_dictEntries at' dat ?_)
      rw [Array.getElem?_eq_getElem lt]
      have lt2 : x < more.length := by rw [size]; exact lt
      have there : more[x]? = some (more[x].1, more[x].2) := List.getElem?_eq_getElem lt2
      obtain ⟨hk, hv⟩ := pairs.get? (e := es[x]) (by simp [lt]) there
      obtain ⟨k', hk', hh⟩ := keys es[x] (Array.getElem_mem lt)
      have ek : k' = more[x].1 := knd.inj _ _ _ hk' hk
      subst ek
      have len : (merged kvs (more.take x)).length ≤ sizeLine := by
        have q := merged_length_le kvs (more.take x)
        rw [List.length_take] at q
        omega
      show wpAny _ _ (holding [es[x].key, es[x].val] (dictPut d es[x].hash es[x].key es[x].val) >>= _) _ _ _
      rw [hh, hv]
      refine wpAny_bind (wpAny_holding (wpAny_dictPut hk' hd' len fun h2 hd2 same2 => ?_))
      have at2 : h2.get? o = some ob := (same2.2 o (Ne.symm apart)).trans at'
      refine wpAny_bind (wpAny_dictEpoch at2 dat ?_)
      rw [if_neg (by simp)]
      exact wpAny_pure ⟨h2, x + 1, rfl, lt, rr, by rw [merged_take_succ kvs more x _ there]; exact hd2, at2, same.trans same2⟩
    · rintro b s' ⟨h', i, rfl, hi, hr, hd', at', same⟩
      have ei : more.length ≤ i := by
        cases q : es.size - i with
        | zero => omega
        | succ m => rw [q, List.range'_succ] at hr; cases hr
      rw [List.take_of_length_le ei] at hd'
      exact wpAny_pure (hQ h' hd' same)
  split
  · refine wpAny_bind (wpAny_dictEntries at_ dat ?_)
    refine wpAny_bind (wpAny_of_eq (a := PUnit.unit) ?_ main)
    rw [← Array.forIn_toList]
    refine forIn_yield_id _ fun e he c => ?_
    obtain ⟨k, hk, _⟩ := keys e (Array.mem_toList_iff.mp he)
    have q := knd.byValue k _ hk
    split
    · rename_i a h
      rw [h] at q
      exact absurd q Bool.false_ne_true
    · rfl
  · exact main
end
end Od
end
section
set_option maxHeartbeats 2000000
/-! OdDisp: {**d, k: v} -/
namespace Od
open PySem PySem.Spec PyProof.Rows L2
section
variable {X : Cx} {k m v : Expr} {pos : Pos}
/-- {**m, k: v} -/
def tWith (tm tk tv : TE) : TE := fun σ H Q => ∀ p, H p = none → tm σ (upd H p (.dK [])) fun x H1 => ∃ o ms, x = .ref o ∧ o ≠ p ∧ H1 o = some (.dK ms) ∧ H1 p = some (.dK []) ∧ ms.length < sizeLine ∧
  ∀ q, H1 q = none → q ≠ p → tk σ (upd (upd H1 p (.dK (mergeK [] ms))) q (.dK [])) fun y H2 => tv σ H2 fun z H3 => ∃ key z', [(y, z)] = [(kV key, z')] ∧ H3 p = some (.dK (mergeK [] ms)) ∧ H3 q = some (.dK []) ∧
    Q (.ref p) (upd (upd H3 q (.dK (mergeK [] [(key, z')]))) p (.dK (mergeK (mergeK [] ms) (mergeK [] [(key, z')]))))
theorem pe_with {tm tk tv : TE} (hm : PE X m tm) (hk : PE X k tk) (hv : PE X v tv) : PE X (.Dict [none, some k] [m, v] pos) (tWith tm tk tv) := by
  refine ⟨fun pins s σ H Q I h => ?_⟩
  have hn := I.hok.fresh (Nat.le_refl s.heap.objs.size)
  have I1 := I.laid (a := s.heap.objs.size) (o := .dK []) (h' := s.heap.push { cls := .type "dict", data := .dict #[] }) (t' := s.toks) (fun _ _ q => Heap.get?_push_of_some _ q) (Nat.le_refl _) (dk_empty s.heap I.big)
  rw [arm_eval_Dict]
  refine wpAny_bind (wpAny_standAt ?_)
  show wpAny (model X.prog X.w) X.A (dictDisplay [(none, do let x ← eval m X.env; standAt pos; pure x), (some (eval k X.env), do let x ← eval v X.env; standAt pos; pure x)]) _ _ s
  unfold dictDisplay
  simp only [List.forIn_cons, List.forIn_nil, List.isEmpty_nil, if_true, pure_bind, bind_assoc]
  refine wpAny_bind (wpAny_alloc ?_)
  generalize hp : s.heap.objs.size = p at hn I1 ⊢
  refine wpAny_bind (wpAny_holding (wpAny_bind (thn (hm.run pins _ σ _ _ I1 (h p hn)) fun u s1 ⟨x, H1, I2, rx, o, ms, ex, hop, ho, hp1, hl, q1⟩ => wpAny_bind (wpAny_standAt (wpAny_pure ?_)))))
  subst ex
  cases (show u = Value.ref o from rx)
  obtain ⟨z1, y1, v1, k1, d1⟩ := dk_of I2.hok ho
  obtain ⟨z2, y2, v2, k2, d2⟩ := dk_of I2.hok hp1
  cases k2
  have lm : v1.length ≤ sizeLine := by rw [← k1.length]; exact z1
  refine wpAny_bind (wpAny_onRaise (wpAny_tryCatch (wpAny_onRaise (wpAny_holding (wpAny_mergeMapping (knd := mixKind X.prog X.w) (Ne.symm hop) y1 d2 d1 (by simpa using lm) fun h2 dd2 same2 => ?_)))))
  have he2 : ∃ q, h2.get? p = some q := let ⟨q, _, _, hq, _⟩ := dd2; ⟨q, hq⟩
  have hz2 : (mergeK [] ms).length ≤ sizeLine := by
    have q := length_mergeK ms []
    rw [List.length_nil, Nat.zero_add] at q
    omega
  have I3 : L2.Inv X pins σ (upd H1 p (.dK (mergeK [] ms))) { s1 with heap := h2 } := d_write (t' := s1.toks) I2 (by rw [hp1]; exact True.intro) same2 he2 (dk_new hz2 y2 (k1.merge .nil) dd2)
  have hne : (([] ++ [(eval k X.env, do let x ← eval v X.env; standAt pos; pure x)] : List (Sem Value × Sem Value)).length == 17) = false := rfl
  rw [hne]
  simp only [Bool.false_eq_true, if_false]
  refine wpAny_bind (wpAny_pure (wpAny_bind (wpAny_pure ?_)))
  dsimp only
  have hne2 : (([] ++ [(eval k X.env, do let x ← eval v X.env; standAt pos; pure x)] : List (Sem Value × Sem Value)).isEmpty) = false := rfl
  rw [hne2]
  simp only [Bool.false_eq_true, if_false]
  refine wpAny_bind (wpAny_bind (wpAny_holding ?_))
  have hn3 : (upd H1 p (.dK (mergeK [] ms))) h2.objs.size = none := I3.hok.fresh (Nat.le_refl _)
  have hqp : h2.objs.size ≠ p := fun z => by
    rw [z, upd_same] at hn3
    cases hn3
  have hn1 : H1 h2.objs.size = none := by rwa [upd_ne hqp] at hn3
  have I4 := I3.laid (a := h2.objs.size) (o := .dK []) (h' := h2.push { cls := .type "dict", data := .dict #[] }) (t' := s1.toks) (fun _ _ q => Heap.get?_push_of_some _ q) (Nat.le_refl _) (dk_empty h2 (I3.big))
  refine wpAny_subDict (knd := mixKind X.prog X.w) (pairs := pairTrees [some k] [v] X.env pos) (by show 1 ≤ 15; decide) (thn ((pps_cons (pos := pos) hk hv pps_nil).run pins _ σ _ _ I4 (show tPairs [(tk, tv)] σ _ (fun ps H3 => ∃ key z, ps = [(kV key, z)] ∧ H3 p = some (.dK (mergeK [] ms)) ∧ H3 h2.objs.size = some (.dK []) ∧
    Q (.ref p) (upd (upd H3 h2.objs.size (.dK (mergeK [] [(key, z)]))) p (.dK (mergeK (mergeK [] ms) (mergeK [] [(key, z)]))))) from q1 h2.objs.size hn1 hqp)) fun ws s4 ⟨ps, H3, I5, rel, key, z, eps, hp3, hq3, q3⟩ => ?_)
  subst eps
  obtain ⟨rs, c, rk⟩ := carries_of (P := X.prog) (w := X.w) (kvs := [(key, z)]) rel
  obtain ⟨z5, y5, v5, k5, d5⟩ := dk_of I5.hok hq3
  cases k5
  refine ⟨rs, c, d5, fun h6 d6 same6 => ?_⟩
  have he6 : ∃ q, h6.get? h2.objs.size = some q := let ⟨q, _, _, hq, _⟩ := d6; ⟨q, hq⟩
  have hl1 : (mergeK [] [(key, z)]).length ≤ 1 := length_mergeK [(key, z)] []
  have I6 := d_write (t' := s4.toks + ws.length) I5 (by rw [hq3]; exact True.intro) same6 he6 (dk_new (Nat.le_trans hl1 (by rw [sizeLine_eq]; decide)) y5 (rk.merge .nil) d6)
  have hp6 : (upd H3 h2.objs.size (.dK (mergeK [] [(key, z)]))) p = some (.dK (mergeK [] ms)) := by rw [upd_ne (Ne.symm hqp)]; exact hp3
  obtain ⟨z7, y7, v7, k7, d7⟩ := dk_of I6.hok hp6
  obtain ⟨z8, y8, v8, k8, d8⟩ := dk_of I6.hok (show (upd H3 h2.objs.size (.dK (mergeK [] [(key, z)]))) h2.objs.size = _ from upd_same)
  have l7 : v7.length = (mergeK [] ms).length := k7.length.symm
  have l8 : v8.length ≤ 1 := by rw [← k8.length]; exact hl1
  have lz : (mergeK [] ms).length < sizeLine := by
    have q := length_mergeK ms []
    rw [List.length_nil, Nat.zero_add] at q
    omega
  refine wpAny_bind (wpAny_onRaise (wpAny_holding (wpAny_mergeMapping (knd := mixKind X.prog X.w) (Ne.symm hqp) y8 d7 d8 (by omega) fun h9 dd9 same9 => ?_)))
  refine wpAny_pure (wpAny_pure ?_)
  have he9 : ∃ q, h9.get? p = some q := let ⟨q, _, _, hq, _⟩ := dd9; ⟨q, hq⟩
  have lf : (mergeK (mergeK [] ms) (mergeK [] [(key, z)])).length ≤ sizeLine := by
    have q := length_mergeK (mergeK [] [(key, z)]) (mergeK [] ms)
    omega
  exact ⟨.ref p, _, d_write (t' := s4.toks + ws.length) I6 (by rw [hp6]; exact True.intro) same9 he9 (dk_new lf y7 (k8.merge k7) dd9), rfl, q3⟩
end
def withD (m k v : PyData) : Option PyData := match m, k with
  | .dict es, .str x => if es.length ≤ 1000000 then some (.dict (mergeE (mergeE [] es) [(.str x, v)])) else none
  | _, _ => none
def d3 (f : PyData → PyData → PyData → Option PyData) (t u v : DE) : DE := fun ρ => match t ρ with
  | some a => match u ρ with
    | some b => match v ρ with
      | some c => f a b c
      | none => none
    | none => none
  | none => none
section
variable {X : Cx} {k m v : Expr} {pos : Pos} {tm tk tv : DE}
theorem pd_with (hm : PE X m (liE X.K tm)) (hk : PE X k (liE X.K tk)) (hv : PE X v (liE X.K tv)) : PE X (.Dict [none, some k] [m, v] pos) (liE X.K (d3 withD tm tk tv)) :=
  PE.imp (pe_with hm hk hv) fun σ H Q ⟨G, ρ, d, vw, s, e, kq⟩ => by
    unfold d3 at e
    cases h1 : tm ρ with
    | none => rw [h1] at e; cases e
    | some a =>
    cases h2 : tk ρ with
    | none => rw [h1, h2] at e; cases e
    | some b =>
    cases h3 : tv ρ with
    | none => rw [h1, h2, h3] at e; cases e
    | some c =>
    rw [h1, h2, h3] at e
    have e' : withD a b c = some d := e
    unfold withD at e'
    split at e'
    · rename_i es x
      split at e'
      · rename_i hz
        cases e'
        intro p hp
        have n1 : Nxt G H G (upd H p (.dK [])) := Nxt.heap vw (same_upd hp)
        refine ⟨G, ρ, _, n1.v, s, h1, fun vm G1 H1 n2 r1 => ?_⟩
        have gp : G1 p = none := n2.mask (vw.free hp) upd_same
        have hp1 : H1 p = some (.dK []) := n2.h _ _ upd_same
        cases r1 with
        | @dic o ms _ ho ra =>
        have hop : o ≠ p := fun z => by rw [z, gp] at ho; cases ho
        have lm : ms.length < sizeLine := by rw [ra.length]; exact Nat.lt_of_le_of_lt hz (by rw [sizeLine_eq]; decide)
        refine ⟨o, ms, rfl, hop, n2.v _ _ ho, hp1, lm, fun q hq hqp => ?_⟩
        have v3 : Same G1 (upd H1 p (.dK (mergeK [] ms))) := same_mask n2.v gp
        have hq3 : (upd H1 p (.dK (mergeK [] ms))) q = none := by rw [upd_ne hqp]; exact hq
        refine ⟨G1, ρ, _, v3.trans (same_upd hq3), s.mono n2.g, h2, fun vk G2 H2 n3 r2 => ?_⟩
        have gq1 : G1 q = none := n2.v.free hq
        refine ⟨G2, ρ, _, n3.v, s.mono (n2.g.trans n3.g), h3, fun vv G3 H3 n4 r3 => ?_⟩
        cases r2
        have hpq : (upd (upd H1 p (.dK (mergeK [] ms))) q (.dK [])) p = some (.dK (mergeK [] ms)) := by rw [upd_ne (Ne.symm hqp), upd_same]
        have hp3 : H3 p = some (.dK (mergeK [] ms)) := n4.h _ _ (n3.h _ _ hpq)
        have hqq : (upd (upd H1 p (.dK (mergeK [] ms))) q (.dK [])) q = some (.dK []) := upd_same
        have hq4 : H3 q = some (.dK []) := n4.h _ _ (n3.h _ _ hqq)
        have gp3 : G3 p = none := n4.mask (n3.mask gp hpq) (n3.h _ _ hpq)
        have gq3 : G3 q = none := n4.mask (n3.mask gq1 hqq) (n3.h _ _ hqq)
        refine ⟨.inr x, vv, rfl, hp3, hq4, ?_⟩
        have rf : RpKv X.K G3 (mergeK (mergeK [] ms) (mergeK [] [(.inr x, vv)])) (mergeE (mergeE [] es) [(.str x, c)]) := by
          have q1 : RpKv X.K G3 (mergeK [] ms) (mergeE [] es) := RpKv.merge .nil (RpKv.mono (n3.g.trans n4.g) ra)
          exact RpKv.merge q1 (.cons r3 .nil)
        refine kq _ (upd G3 p (.dK (mergeK (mergeK [] ms) (mergeK [] [(.inr x, vv)])))) _ ⟨fun a u hu => ?_, (n2.g.trans (n3.g.trans n4.g)).trans (same_upd gp3), fun a u hu => ?_, fun a u hu => ?_⟩ (.dic upd_same (RpKv.mono (same_upd gp3) rf))
        · have hap : a ≠ p := ne_of_none hu hp
          have h5 : H1 a = some u := n2.h _ _ (by rw [upd_ne hap]; exact hu)
          have haq : a ≠ q := ne_of_none h5 hq
          rw [upd_ne hap, upd_ne haq]
          refine n4.h _ _ (n3.h _ _ ?_)
          rw [upd_ne haq, upd_ne hap]
          exact h5
        · by_cases hap : a = p
          · subst hap
            rw [upd_same] at hu ⊢
            exact hu
          · rw [upd_ne hap] at hu ⊢
            rw [upd_ne (ne_of_none hu gq3)]
            exact n4.v _ _ hu
        · by_cases hap : a = p
          · subst hap
            exact .inr hp
          · rw [upd_ne hap] at hu
            have n34 := n3.trans n4
            rcases n34.new a u hu with z | z
            · rcases n2.new a u z with y | y
              · exact .inl y
              · rw [upd_ne hap] at y
                exact .inr y
            · have haq : a ≠ q := fun y => by rw [y, upd_same] at z; cases z
              rw [upd_ne haq, upd_ne hap] at z
              exact .inr (by
                have := n2.h
                have w := (Same.free this) z
                rw [upd_ne hap] at w
                exact w)
      · cases e'
    · cases e'
end
end Od
end
section
set_option maxHeartbeats 2000000
/-! OdSort: sorted(list) of alike data. -/
namespace Od
open PySem PySem.Spec PyProof.Rows L2 PySem.W PySem.SeqAt
def isrt (x : PyData) : List PyData → List PyData
  | [] => [x]
  | y :: r => if dataLt y x then y :: isrt x r else x :: y :: r
def isort : List PyData → List PyData
  | [] => []
  | x :: r => isrt x (isort r)
def strictly : List PyData → Bool
  | [] => true
  | x :: r => r.all (dataLt x) && strictly r
def tupB : PyData → Bool
  | .tuple _ => true
  | _ => false
def tup1B : PyData → Bool
  | .tuple (_ :: _) => true
  | _ => false
def otherB : PyData → Bool
  | .tuple _ => false
  | .none => false
  | _ => true
def kindB (ds : List PyData) : Bool := ds.all tup1B || ds.all otherB || (ds.all tupB && match ds with
  | .tuple [] :: _ => true
  | _ => false)
def alikeB (ds : List PyData) : Bool := ds.all fun d => ds.all fun d' => alike d d'
def sortOk (ds : List PyData) : Bool := decide (ds.length ≤ 1000000) && alikeB ds && kindB ds && ds.all (fun d => decide (d.depth ≤ 32) && d.canLay0) && strictly (isort ds)
def sortL (ds : List PyData) : Option PyData := if sortOk ds then some (.list (isort ds)) else none
def sortD : List PyData → Option PyData
  | [.list ds] => sortL ds
  | _ => none
/-! ### the order -/
theorem isrt_perm (x : PyData) : ∀ l : List PyData, (isrt x l).Perm (x :: l)
  | [] => .refl _
  | y :: r => by
    unfold isrt
    split
    · exact ((isrt_perm x r).cons y).trans (List.Perm.swap x y r)
    · exact .refl _
theorem isort_perm : ∀ l : List PyData, (isort l).Perm l
  | [] => .refl _
  | x :: r => (isrt_perm x (isort r)).trans ((isort_perm r).cons x)
theorem perm_one {α : Type} {lt : α → α → Bool} (irr : ∀ a, lt a a = false) : ∀ {l2 l1 : List α}, l1.Perm l2 → l1.Pairwise (fun a b => lt b a = false) → l2.Pairwise (fun a b => lt a b = true) → l1 = l2
  | [], l1, p, _, _ => p.eq_nil
  | b :: r2, [], p, _, _ => by have := p.length_eq; simp at this
  | b :: r2, a :: r1, p, h1, h2 => by
    rw [List.pairwise_cons] at h1 h2
    have e : a = b := by
      have ha := p.mem_iff.mp List.mem_cons_self
      rcases List.mem_cons.mp ha with q | q
      · exact q
      · have hb := p.mem_iff.mpr List.mem_cons_self
        rcases List.mem_cons.mp hb with q2 | q2
        · exact q2.symm
        · have z := h1.1 b q2
          rw [h2.1 a q] at z
          cases z
    subst e
    rw [perm_one irr (List.perm_cons a |>.mp p) h1.2 h2.2]
theorem strictly_pw : ∀ {l : List PyData}, strictly l = true → l.Pairwise fun a b => dataLt a b = true
  | [], _ => .nil
  | x :: r, h => by
    unfold strictly at h
    rw [Bool.and_eq_true] at h
    exact List.pairwise_cons.mpr ⟨fun y hy => List.all_eq_true.mp h.1 y hy, strictly_pw h.2⟩
theorem merge_isort {ds : List PyData} (h : strictly (isort ds) = true) : ds.mergeSort (dataLe false id) = isort ds := by
  have T := sortLe_total (listOrd itemOrd) false (fun b : PyData => keyToks (id b))
  refine perm_one (lt := dataLt) (fun a => lex_irrefl (O := itemOrd) _) ((List.mergeSort_perm ds _).trans (isort_perm ds).symm) ?_ (strictly_pw h)
  refine (List.pairwise_mergeSort (le := dataLe false id) (fun a b c => T.trans a b c) (fun a b => ?_) ds).imp ?_
  · have q : dataLe false id a b = true ∨ dataLe false id b a = true := T.total a b
    simpa using q
  · intro a b hab
    have : (!dataLt b a) = true := hab
    simpa using this
theorem merge_map {β : Type} (f : β → PyData) (bs : List β) : (bs.mergeSort (dataLe false f)).map f = (bs.map f).mergeSort (dataLe false id) := List.map_mergeSort fun a _ b _ => rfl
/-! ### tuples, the first of them empty -/
section
variable {prog : Program} {w : World} {A : Around} {E : Value → Shared → Prop} {s : Shared}
theorem firsts_any : ∀ {vs : List Value} {ds : List PyData} {Q : List (Option Value) → Shared → Prop}, EachIs (fun v d => ∃ as, Reads s.heap v d as) vs ds → (∀ d, d ∈ ds → tupB d = true) →
    (∀ fs : List (Option Value), fs.length = vs.length → (∀ r, ds = .tuple [] :: r → ∃ r', fs = none :: r') → Q fs s) → wpAny (model prog w) A (vs.mapM firstOfTuple') Q E s
  | _, _, Q, .nil, _, h => by
    rw [List.mapM_nil]
    exact wpAny_pure (h [] rfl fun r e => by cases e)
  | _, _, Q, .cons (a := v) (as := vs) (b := d) (bs := ds) ⟨as, r⟩ t, hd, h => by
    have ht := hd d List.mem_cons_self
    rw [List.mapM_cons, kas_first_eq]
    cases r with
    | @tuple a o xs n _ _ ho hc hdat hr =>
      refine wpAny_bind (wpAny_bind (Looks.here (show Looks (model prog w) s.heap (typeOf (.ref a)) o.cls from (Looks.ld ho).andThen .now) ?_))
      rw [hc, if_neg (by first | decide | simp)]
      refine wpAny_bind (listItems_at ho hdat (wpAny_pure ?_))
      refine wpAny_bind (firsts_any t (fun d hd' => hd d (List.mem_cons_of_mem _ hd')) fun fs hl _ => wpAny_pure (h _ (by rw [List.length_cons, List.length_cons, hl]) fun r e => ?_))
      cases e
      have e0 : xs.toList = [] := by
        generalize xs.toList = l at hr
        cases hr
        rfl
      have e1 : xs[0]? = none := by rw [← Array.getElem?_toList, e0]; rfl
      exact ⟨fs, by rw [e1]⟩
    | _ => exact absurd ht Bool.false_ne_true
theorem kind_tup0 {vs : List Value} {ds : List PyData} {r : List PyData} {Q : SortKind → Shared → Prop} (e : EachIs (fun v d => ∃ as, Reads s.heap v d as) vs ds) (hd : ∀ d, d ∈ ds → tupB d = true) (h0 : ds = .tuple [] :: r) (hq : Q oneType' s) : wpAny (model prog w) A (keyKind' vs.toArray) Q E s := by
  have hT : ∀ v ∈ vs, Looks (model prog w) s.heap (typeOf v) (Value.type "tuple") := fun v hv => by
    obtain ⟨d, hm, as, rd⟩ := e.left v hv
    have ht := hd d hm
    have q := looks_reads (M := model prog w) rd
    cases d with
    | tuple xs => exact q
    | _ => exact absurd ht Bool.false_ne_true
  rw [keyKind'_eq, List.mapM_toArray, map_eq_pure_bind]
  refine wpAny_bind (wpAny_bind (firsts_any e hd fun fs hl hf => wpAny_pure ?_))
  obtain ⟨r', rfl⟩ := hf r h0
  rw [if_neg (by simp), if_neg (by simp)]
  rw [oneTypeOnly'_eq, List.mapM_toArray, map_eq_pure_bind]
  refine wpAny_bind (wpAny_bind (wpAny_bind (kas_mapM (r := Value.type "tuple") _ (fun v hv Q' hq => (hT v hv).here hq) (wpAny_pure ?_))))
  subst h0
  cases e with
  | cons hv ht =>
  rename_i v vs
  have hall : ((List.map (fun _ => Value.type "tuple") (v :: vs)).toArray.all fun x => x == Value.type "tuple") = true := by
    simp only [List.all_toArray, List.all_map, List.all_eq_true]
    intro _ _
    rfl
  have h1 : (List.map (fun _ => Value.type "tuple") (v :: vs)).toArray[0]? = some (Value.type "tuple") := by simp
  rw [h1]
  simp only [hall, if_true]
  exact wpAny_pure (wpAny_pure hq)
theorem call_tuple_lt {Q : Value → Shared → Prop} {l b : Addr} {items items2 : Array Value} {e r : Nat → Bool} (hl : s.heap.IsTuple l items) (hb : s.heap.IsTuple b items2)
    (he : ∀ j (h1 : j < items.size) (h2 : j < items2.size), EqAt A.in1 s items[j] items2[j] (e j)) (hr : ∀ j (h1 : j < items.size) (h2 : j < items2.size), e j = false → RcLt A.in1 s items[j] items2[j] (r j))
    (h : Q (.bool (firstLt e r (decide (items.size < items2.size)) (List.range (min items.size items2.size)))) s) : wpAny (model prog w) A (call (.builtin "tuple.__lt__") [.ref l, .ref b]) Q E s := by
  obtain ⟨⟨c1, d1, dt1, sl1⟩, g1, y1, n1, z1⟩ := id hl
  obtain ⟨⟨c2, d2, dt2, sl2⟩, g2, y2, n2, z2⟩ := id hb
  simp only at y1 z1 y2 z2
  subst y1 z1 y2 z2
  exact call_meets PySem.F.slot_tuple_lt ⟨_, g1, rfl⟩ PySem.F.entry_tuple_lt (PySem.F.args_tuple_lt_2 _ _) (tuple_ltAt l b items items2 n1 n2 d1 d2 sl1 sl2 e r) ⟨g1, g2, he, hr, h⟩
theorem oneLt_tups {xs ys : List PyData} {a b : Value} {as bs : List Addr} {Q : Bool → Shared → Prop} (ra : Reads s.heap a (.tuple xs) as) (rb : Reads s.heap b (.tuple ys) bs) (hal : alikeAll xs ys = true)
    (hu : A.units + min (PyData.tuple xs).depth (PyData.tuple ys).depth < cLine) (hq : Q (dataLt (.tuple xs) (.tuple ys)) s) : wpAny (model prog w) A (oneLt' true a b) Q E s := by
  cases ra with
  | @tuple l o vs n _ as₁ h1 h2 h3 h4 =>
    cases rb with
    | @tuple l' o' vs' n' _ bs₁ k1 k2 k3 k4 =>
      have n1 : vs.size = xs.length := by simpa using ReadsAll.length _ _ _ h4
      have n2 : vs'.size = ys.length := by simpa using ReadsAll.length _ _ _ k4
      rw [dataLt_tuple, ← firstLt_toks xs ys hal, ← n1, ← n2] at hq
      rw [oneLt'_eq]
      simp only [if_true]
      refine wpAny_bind (wpAny_cRoomFor (room_here hu) ?_)
      refine wpAny_bind (wpAny_callSpecialIfBound?_slot (T := "tuple") ⟨_, h1, h2⟩ PySem.F.slot_tuple_lt (call_tuple_lt (e := pairEq xs ys) (r := fun j => dataLt (xs.getD j .none) (ys.getD j .none)) ⟨_, h1, h2, _, h3⟩ ⟨_, k1, k2, _, k3⟩ (fun j j1 j2 => ?_) (fun j j1 j2 hj => ?_) (wpAny_truthy_bool hq)))
      · have q := eqAt_alikeAll xs ys A.in1 s vs.toList vs'.toList _ _ h4 k4 hal (room_in hu) j (by simpa using j1) (by simpa using j2)
        simpa using q
      · have q := rcLt_alikeAll xs ys A.in1 s vs.toList vs'.toList _ _ h4 k4 hal (room_in hu) j (by simpa using j1) (by simpa using j2) hj
        simpa using q
theorem sorts_tup0 {vs : List Value} {ds r : List PyData} (e : EachIs (fun v d => ∃ as, Reads s.heap v d as) vs ds) (hal : AllAlike ds) (hd : ∀ d, d ∈ ds → tupB d = true) (h0 : ds = .tuple [] :: r) (hu : ∀ d, d ∈ ds → A.units + d.depth < cLine) : SortsAt prog w A s (dataKind s.heap ds) vs := by
  refine ⟨fun v hv => ?_, oneType', ?_, fun h2 E Q hq => kind_tup0 e hd h0 hq⟩
  · obtain ⟨d, hm, as, rd⟩ := e.left v hv
    exact ⟨_, dataKind_some hal hm rd⟩
  · intro E x y a b Q ha hb hq
    obtain ⟨d, as, hm, ra, rfl⟩ := dataKind_inv ha
    obtain ⟨d', as', hm', rb, rfl⟩ := dataKind_inv hb
    rw [keyLt'_oneType]
    have t1 := hd d hm
    have t2 := hd d' hm'
    have al := hal d hm d' hm'
    have room := Nat.lt_of_le_of_lt (Nat.add_le_add_left (Nat.min_le_left d.depth d'.depth) A.units) (hu d hm)
    cases d with
    | tuple xs =>
      cases d' with
      | tuple ys => exact oneLt_tups ra rb (by simpa [alike] using al) room hq
      | _ => exact absurd t2 Bool.false_ne_true
    | _ => exact absurd t1 Bool.false_ne_true
theorem kind_sorts {vs : List Value} {ds : List PyData} (e : EachIs (fun v d => ∃ as, Reads s.heap v d as) vs ds) (hal : alikeB ds = true) (hk : kindB ds = true) (hu : ∀ d, d ∈ ds → A.units + d.depth < cLine) : SortsAt prog w A s (dataKind s.heap ds) vs := by
  have al : AllAlike ds := fun d hd d' hd' => List.all_eq_true.mp (List.all_eq_true.mp hal d hd) d' hd'
  unfold kindB at hk
  rw [Bool.or_eq_true, Bool.or_eq_true, Bool.and_eq_true] at hk
  rcases hk with (h | h) | ⟨h, h0⟩
  · refine SortsAt.data e al (.inl fun d hd => ?_) hu
    have q := List.all_eq_true.mp h d hd
    unfold tup1B at q
    split at q
    · exact ⟨_, _, rfl⟩
    · cases q
  · refine SortsAt.data e al (.inr fun d hd => ?_) hu
    have q := List.all_eq_true.mp h d hd
    exact ⟨fun z => (by rw [z] at q; cases q), fun xs z => (by rw [z] at q; cases q)⟩
  · split at h0
    · rename_i r
      exact sorts_tup0 e al (fun d hd => List.all_eq_true.mp h d hd) rfl hu
    · cases h0
end
theorem reads_all {X : Cx} {pins : List (Addr × Obj)} {σ : L2.St} {H G : Hp} {s : Shared} (I : Inv X pins σ H s) (vw : Same G H) : ∀ {vs : List V} {us : List Value} {ds : List PyData}, Vals vs us → RpAll X.K G vs ds → (ds.all fun d => d.canLay0) = true →
    ∃ bs : List (V × PyData), bs.map (·.1) = vs ∧ bs.map (·.2) = ds ∧ (∀ b ∈ bs, Rp X.K G b.1 b.2) ∧ EachIs (fun u b => RelV b.1 u ∧ ∃ as, Reads s.heap u b.2 as) us bs
  | _, _, _, .nil, .nil, _ => ⟨[], rfl, rfl, fun b hb => absurd hb (by simp), .nil⟩
  | _, _, _, .cons r rr, .cons h hr, c => by
    rw [List.all_cons, Bool.and_eq_true] at c
    obtain ⟨bs, e1, e2, e3, e4⟩ := reads_all I vw rr hr c.2
    obtain ⟨as, rd⟩ := Dp.reads I _ _ _ (h.dp vw c.1) r
    exact ⟨(_, _) :: bs, by rw [List.map_cons, e1], by rw [List.map_cons, e2], fun b hb => by
      rcases List.mem_cons.mp hb with rfl | hb
      · exact h
      · exact e3 b hb, .cons ⟨r, as, rd⟩ e4⟩
theorem vals_each {h : Heap} : ∀ {us : List Value} {bs : List (V × PyData)}, EachIs (fun u b => RelV b.1 u ∧ ∃ as, Reads h u b.2 as) us bs → Vals (bs.map (·.1)) us
  | _, _, .nil => .nil
  | _, _, .cons a t => .cons a.1 (vals_each t)
theorem rpAll_of {K : PySem.W.Frag} {G : Hp} : ∀ {bs : List (V × PyData)}, (∀ b ∈ bs, Rp K G b.1 b.2) → RpAll K G (bs.map (·.1)) (bs.map (·.2))
  | [], _ => .nil
  | b :: r, h => .cons (h b List.mem_cons_self) (rpAll_of fun c hc => h c (List.mem_cons_of_mem _ hc))
/-- the sorted list of a list's items, as the library gives it -/
theorem sorted_fin {X : Cx} {pins : List (Addr × Obj)} {σ : L2.St} {H G : Hp} {s : Shared} {vs : List V} {us : List Value} {ds : List PyData} (I : Inv X pins σ H s) (vw : Same G H) (rv : Vals vs us) (ra : RpAll X.K G vs ds) (ok : sortOk ds = true) :
    ∃ bs : List (V × PyData), EachIs (fun u b => RelV b.1 u ∧ ∃ as, Reads s.heap u b.2 as) us bs ∧ bs.map (·.2) = ds ∧ ∀ (h : Heap) (out : List Value), EachIs (fun u b => RelV b.1 u ∧ ∃ as, Reads h u b.2 as) out (bs.mergeSort (dataLe false fun b => b.2)) → ∃ ws, Vals ws out ∧ RpAll X.K G ws (isort ds) := by
  unfold sortOk at ok
  rw [Bool.and_eq_true, Bool.and_eq_true, Bool.and_eq_true, Bool.and_eq_true] at ok
  obtain ⟨⟨⟨⟨hz, hal⟩, hk⟩, hc⟩, hs⟩ := ok
  have hc2 : (ds.all fun d => d.canLay0) = true := List.all_eq_true.mpr fun d hd => by
    have q := List.all_eq_true.mp hc d hd
    rw [Bool.and_eq_true] at q
    exact q.2
  obtain ⟨bs, e1, e2, e3, e4⟩ := reads_all I vw rv ra hc2
  refine ⟨bs, e4, e2, fun h out eo => ⟨_, vals_each eo, ?_⟩⟩
  have q := rpAll_of (K := X.K) (G := G) (bs := bs.mergeSort (dataLe false fun b => b.2)) fun b hb => e3 b ((List.mergeSort_perm _ _).mem_iff.mp hb)
  rw [merge_map, e2, merge_isort hs] at q
  exact q
section
variable {X : Cx}
/-- a new list behind a sort -/
theorem fin_sorted {pins : List (Addr × Obj)} {σ : L2.St} {H G : Hp} {s : Shared} {us out : List Value} {ws : List V} {ds : List PyData} {Q : VK} (I : Inv X pins σ H s) (vw : Same G H) (rw' : Vals ws out) (ra : RpAll X.K G ws ds) (hz : ds.length ≤ 1000000)
    (k : ∀ v G' H', Nxt G H G' H' → Rp X.K G' v (.list ds) → Q v H') : EP X pins σ Q (.ref (s.heap.objs.size + 1)) { s with heap := sortedAll s.heap us out.toArray } := by
  obtain ⟨c, hc⟩ := sortedAll_at s.heap us out.toArray
  have hf : H (s.heap.objs.size + 1) = none := I.hok.fresh (Nat.le_succ _)
  refine ⟨.ref (s.heap.objs.size + 1), upd H (s.heap.objs.size + 1) (.lst ws), I.laid (t' := s.toks) (fun b o e => sortedAll_old e) (Nat.le_succ _) ⟨by rw [ra.length]; exact small_line hz, out, c, rw', hc⟩, rfl, ?_⟩
  exact k _ _ _ (Nxt.upd vw hf) (.lst upd_same (ra.mono (same_upd (vw.free hf))))
theorem isort_len (ds : List PyData) : (isort ds).length = ds.length := (isort_perm ds).length_eq
theorem sortOk_len {ds : List PyData} (ok : sortOk ds = true) : ds.length ≤ 1000000 := by
  unfold sortOk at ok
  rw [Bool.and_eq_true, Bool.and_eq_true, Bool.and_eq_true, Bool.and_eq_true] at ok
  exact of_decide_eq_true ok.1.1.1.1
theorem sortOk_alike {ds : List PyData} (ok : sortOk ds = true) : alikeB ds = true := by
  unfold sortOk at ok
  rw [Bool.and_eq_true, Bool.and_eq_true, Bool.and_eq_true, Bool.and_eq_true] at ok
  exact ok.1.1.1.2
theorem sortOk_kind {ds : List PyData} (ok : sortOk ds = true) : kindB ds = true := by
  unfold sortOk at ok
  rw [Bool.and_eq_true, Bool.and_eq_true, Bool.and_eq_true, Bool.and_eq_true] at ok
  exact ok.1.1.2
theorem sortOk_depth {ds : List PyData} (ok : sortOk ds = true) : ∀ d ∈ ds, d.depth ≤ 32 := fun d hd => by
  unfold sortOk at ok
  rw [Bool.and_eq_true, Bool.and_eq_true, Bool.and_eq_true, Bool.and_eq_true] at ok
  have q := List.all_eq_true.mp ok.1.2 d hd
  rw [Bool.and_eq_true] at q
  exact of_decide_eq_true q.1
theorem each_data {h h' : Heap} {us : List Value} {bs : List (V × PyData)} (k : ∀ b o, h.get? b = some o → h'.get? b = some o) (e : EachIs (fun u b => RelV b.1 u ∧ ∃ as, Reads h u b.2 as) us bs) : EachIs (fun u b => RelV b.1 u ∧ ∃ as, Reads h' u b.2 as) us bs :=
  e.mono fun _ _ ⟨r, as, rd⟩ => ⟨r, as, PyProof.Rows.Reads.keeps k rd⟩
theorem each_imp {h : Heap} {us : List Value} {bs : List (V × PyData)} (e : EachIs (fun u b => RelV b.1 u ∧ ∃ as, Reads h u b.2 as) us bs) : EachIs (fun u d => ∃ as, Reads h u d as) us (bs.map (·.2)) :=
  each_map (R := fun v d => ∃ as, Reads h v d as) (fun b : V × PyData => b.2) (e.mono fun _ _ q => q.2)
theorem call_sortD (hu : X.A.units + 64 < cLine) : CallR X (.builtin "sorted") (rDn X.K sortD) := by
  intro pins s σ H xs us Q I r h
  obtain ⟨G, ds, d, vw, hx, e, k⟩ := h
  unfold sortD at e
  split at e
  · rename_i ds
    unfold sortL at e
    split at e
    · rename_i ok
      cases e
      obtain ⟨v, rfl, h⟩ := one_rp hx
      cases h with
      | @lst a ys _ ha ra =>
        obtain ⟨u, rfl, rx⟩ := vals1 r
        cases rx
        obtain ⟨its, rv, pl, hz⟩ := I.list (SqL.of (vw _ _ ha))
        obtain ⟨bs, e1, e2, e3⟩ := sorted_fin I vw rv ra ok
        have e1' := each_data (h' := sortingHeap (copyHeap s.heap its) (s.heap.objs.size + 1) its) (fun _ _ => sorting_copy_old) e1
        have hlen : its.length ≤ sizeLine := by rw [← rv.length]; exact hz
        have hal : AllAlike (bs.map fun b => b.2) := by
          rw [e2]
          exact fun d hd d' hd' => List.all_eq_true.mp (List.all_eq_true.mp (sortOk_alike ok) d hd) d' hd'
        refine sorted_vals (κ := dataKind (sortingHeap (copyHeap s.heap its) (s.heap.objs.size + 1) its) (bs.map fun b => b.2)) pl.isList (kind_sorts (A := X.A.in1.in1) (s := { s with heap := sortingHeap (copyHeap s.heap its) (s.heap.objs.size + 1) its }) (each_imp e1') (by rw [e2]; exact sortOk_alike ok) (by rw [e2]; exact sortOk_kind ok) fun d hd => ?_) hlen ?_
        · rw [e2] at hd
          have q := sortOk_depth ok d hd
          show X.A.units + 2 + d.depth < cLine
          omega
        · have eo := sortVals_data (h' := sortingHeap (copyHeap s.heap its) (s.heap.objs.size + 1) its) (enc := fun b : V × PyData => b.2) false e1' (e1'.mono fun _ _ q => q.2) hal
          obtain ⟨ws, w1, w2⟩ := e3 _ _ eo
          exact fin_sorted I vw w1 w2 (by rw [isort_len]; exact sortOk_len ok) k
    · cases e
  · cases e
end
end Od
end
section
set_option maxHeartbeats 3200000
/-! OdSet0: set(tuple of texts, no two the same), at the library's level. -/
namespace Od
open PySem PySem.Spec PyProof.Rows L2 PySem.Froz
open PySem.Sem (wp)
def strOf : Value → Str
  | .str y _ => y
  | _ => Str.empty
/-- the payload D holds the texts l and its table can be walked -/
def Lays (P : Program) (w : World) (D : SD) (l : List Str) : Prop := TxOk P w D l ∧ Ris D.2.2.place.toList ∧ (w.params.followText "set-order" = true ∨ D.2.2.led = true) ∧ (D.1.toList.map fun e => strOf e.2).Perm l
/-- a set of the texts l at a -/
def SetX (P : Program) (w : World) (h : Heap) (a : Addr) (l : List Str) : Prop := ∃ D : SD, h.get? a = some (sObj "set" D) ∧ Lays P w D l
section
variable {P : Program} {w : World} {A : Around} {E : Value → Shared → Prop} {s : Shared}
theorem lays_tail {ep : Nat} {es : Array (Int × Value)} {t : SetTable} {b : Bool} {l : List Str} (F : TxOk P w (es, ep, t) l) (r : Ris t.place.toList) (d : w.params.followText "set-order" = true ∨ t.led = true) (pm : (es.toList.map fun e => strOf e.2).Perm l) : Lays P w (tailTx ep es t b) l := by
  refine ⟨tail_ok F, ?_, ?_, ?_⟩
  · unfold tailTx
    split
    · exact relayAll_ris t es _
    · exact r
  · unfold tailTx
    split
    · exact d.imp id fun z => by
        show (relayAll t es _).2.1.led = true
        rw [relayAll_led]
        exact z
    · exact d
  · unfold tailTx
    split
    · exact ((relayAll_perm t es _).map _).trans pm
    · exact pm
theorem Lays.add {D : SD} {l : List Str} {k : Str} (u : Tok) (L : Lays P w D l) : Lays P w (addTx (hashStr w k) (.str k u) D) (k :: l) := by
  obtain ⟨es, ep, t⟩ := D
  obtain ⟨F, r, d, pm⟩ := L
  have hp := layNew_perm t es (hashStr w k) (.str k u)
  have hf := layNew_fits t es (hashStr w k) (.str k u)
  have r1 := layNew_ris t es (hashStr w k) (.str k u) r
  have d1 := layNew_led t es (hashStr w k) (.str k u)
  have p1 : ((layNew t es (hashStr w k) (.str k u)).1.toList.map fun e => strOf e.2).Perm (k :: l) := by
    have q := hp.map fun e => strOf e.2
    rw [Array.toList_push, List.map_append] at q
    refine q.trans ?_
    refine (List.perm_append_comm).trans ?_
    exact pm.cons k
  have d2 : w.params.followText "set-order" = true ∨ (layNew t es (hashStr w k) (.str k u)).2.1.led = true := d.imp id fun z => d1.trans z
  show Lays P w (tailTx ep (layNew t es (hashStr w k) (.str k u)).1 (if (layNew t es (hashStr w k) (.str k u)).2.1.plain = true then { (layNew t es (hashStr w k) (.str k u)).2.1 with plain := false } else (layNew t es (hashStr w k) (.str k u)).2.1) (layNew t es (hashStr w k) (.str k u)).2.2.1) (k :: l)
  by_cases c : (layNew t es (hashStr w k) (.str k u)).2.1.plain = true
  · rw [if_pos c]
    exact lays_tail (F.push hp (SetTable.fits_plain_off hf)) r1 d2 p1
  · rw [if_neg c]
    exact lays_tail (F.push hp hf) r1 d2 p1
theorem lays_new {b : Bool} (h : w.params.followText "set-order" = true ∨ b = true) : Lays P w (#[], 0, .fresh 0 0 b) [] := ⟨TxOk.nil rfl, List.Pairwise.nil, h, .refl _⟩
/-- the loop that fills a new set -/
theorem fill_txt {I : Addr} {fp wr : List Addr} {G : Array GenState → Array GenState → Prop} {n : Nat} {Pv : Nat → Value → Prop} {St : Nat → Shared → Prop} {R : Result → Shared → Prop}
    (W : WalksS P w A.in1 I fp wr G n Pv St) (S : Addr) (off : S ∉ fp) (xs : List Str) (hn : n = xs.length) (nd : xs.Nodup) (hb : xs.length + 1 < scanBound) (hval : ∀ i v, Pv i v → ∃ k t, xs[i]? = some k ∧ v = .str k t) :
    ∀ (m i : Nat) (s : Shared), n - i = m → i ≤ n → St i s → SetX P w s.heap S (xs.take i).reverse →
      (∀ s', Moved (S :: wr) G s s' → SetX P w s'.heap S xs.reverse → R (.ok (.ret .none)) s') → codeAny (model P w) A (.builtin "set.update.loop" ⟨[.ref S, .ref I], []⟩) R s := by
  have offw : S ∉ wr := fun h => off (W.sub _ h)
  have more : ∀ b ∈ wr, b ∈ S :: wr := fun b hb => List.mem_cons_of_mem _ hb
  intro m
  induction m with
  | zero =>
    intro i s hm hi st ⟨D, hD, L⟩ hR
    have e : i = n := by omega
    subst e
    refine codeAny_builtin F.entry_set_update_loop ?_
    rw [Around.under_plainId F.plain_set_update_loop _]
    show wpAny _ A.in1 (pyNext (.ref I) >>= _) _ _ s
    refine wpAny_bind (W.done s _ _ st fun s' mv => ?_)
    show wpAny _ A.in1 (ret Value.none) _ _ s'
    rw [List.take_of_length_le (by omega)] at L
    exact wpAny_pure (hR s' (mv.mono more) ⟨D, mv.heap S _ offw hD, L⟩)
  | succ m ih =>
    intro i s hm hi st ⟨D, hD, L⟩ hR
    have lt : i < n := by omega
    refine codeAny_builtin F.entry_set_update_loop ?_
    rw [Around.under_plainId F.plain_set_update_loop _]
    show wpAny _ A.in1 (pyNext (.ref I) >>= _) _ _ s
    refine wpAny_bind (W.item i s _ _ lt st fun v s' hP st' mv => ?_)
    obtain ⟨k, t, hk, rfl⟩ := hval i v hP
    have hD' : s'.heap.get? S = some (sObj "set" D) := mv.heap S _ offw hD
    have fresh : k ∉ (xs.take i).reverse := fun z => by
      have q := List.mem_reverse.mp z
      obtain ⟨j, hj, ej⟩ := List.mem_iff_getElem.mp q
      rw [List.length_take] at hj
      rw [List.getElem_take] at ej
      have hi2 : i < xs.length := by omega
      have ei : xs[i] = k := Option.some.inj ((List.getElem?_eq_getElem hi2).symm.trans hk)
      have hj2 : j < xs.length := by omega
      have q2 := (List.getElem_inj (h₀ := hj2) (h₁ := hi2) nd).mp (ej.trans ei.symm)
      omega
    show wpAny _ A.in1 (holding [Value.str k t] (setAdd S (.str k t)) >>= _) _ _ s'
    refine wpAny_bind (wpAny_holding ?_)
    unfold setAdd
    refine wpAny_holding (wpAny_bind ((strKind P w).pyHash (k := k) (strKind_is _ _ _ _) ?_))
    refine add_x (s := { s' with toks := s'.toks + 1 }) hD' L.1 fresh (by rw [List.length_reverse, List.length_take]; omega) ?_
    have new : (s'.heap.update S (fun _ => sObj "set" (addTx (hashStr w k) (.str k t) D))).get? S = some (sObj "set" (addTx (hashStr w k) (.str k t) D)) := get_upd _ hD' rfl
    have same : Heap.SameBut S s'.heap (s'.heap.update S (fun _ => sObj "set" (addTx (hashStr w k) (.str k t) D))) := Heap.SameBut.update ..
    refine wpAny_pure ⟨plainId_quiet F.plain_set_update_loop _, ih (i + 1) _ (by omega) lt (W.frame _ s' _ _ st' (Nat.le_succ _) fun b hb o e => ?_) ⟨_, new, by rw [List.take_add_one, hk, Option.toList, List.reverse_append]; exact L.add t⟩ fun s2 mv2 L2' => ?_⟩
    · exact (same.2 b (fun h : b = S => off (by rw [← h]; exact hb))).trans e
    · refine hR s2 (Moved.trans W.gtrans ((mv.mono more).then_heap (Nat.le_succ _) fun b o hb e => ?_) mv2) L2'
      exact (same.2 b (fun h : b = S => hb (by rw [h]; exact List.mem_cons_self))).trans e
set_option maxRecDepth 100000 in
theorem call_set_tupX {l : Addr} {items : Array Value} (xs : List Str) {Q : Value → Shared → Prop} (hh : A.handled = none) (hl : s.heap.IsTuple l items) (size : items.size = xs.length) (hval : ∀ (i : Nat) (v : Value), items[i]? = some v → ∃ k t, xs[i]? = some k ∧ v = .str k t) (nd : xs.Nodup) (hb : xs.length + 1 < scanBound)
    (h : ∀ (h' : Heap) (tk : Nat), SetX P w h' s.heap.objs.size xs.reverse → (∀ b o, s.heap.get? b = some o → h'.get? b = some o) → Q (.ref s.heap.objs.size) { s with heap := h', toks := tk }) :
    wpAny (model P w) A (call (.type "set") [.ref l]) Q E s := by
  obtain ⟨c, tl, hmro⟩ := F.called_set.mro
  have hmade := F.called_set.made
  have hsub := F.called_set.sub
  refine wpAny_call (codeAny_of_tree ?_)
  show wpAny _ _ (callAny (.type "set") _) _ _ _
  refine wpAny_pure ⟨Code.quiet_builtin _ (by decide +kernel), codeAny_builtin F.entry_type_call ?_⟩
  rw [Around.under_plain (weight_type_call_type "set" [.ref l] []) rfl]
  have h1 := F.called_set.notType
  have h2 := F.called_set.canCreate
  have hct := F.typeCall_set_1 (.ref l)
  repeat (any_goals (first | assumption | wp_step))
  generalize eb : (!w.params.followText "set-order") = led
  have hled : w.params.followText "set-order" = true ∨ led = true := by
    cases q : w.params.followText "set-order" with
    | true => exact .inl rfl
    | false => rw [q] at eb; exact .inr eb.symm
  refine codeAny_mono (code_set_led1 (.ref l) (E := E) (Q₁ := fun obj s₁ => obj = .ref s.heap.objs.size ∧ s₁ = { s with heap := s.heap.push (sObj "set" (#[], 0, .fresh 0 0 led)) }) ⟨rfl, by rw [eb]; rfl⟩) fun r s₁ hr => ?_
  cases r with
  | error e => exact hr
  | ok fl =>
    cases fl with
    | ret obj =>
      obtain ⟨rfl, rfl⟩ := hr
      have hS : (s.heap.push (sObj "set" (#[], 0, .fresh 0 0 led))).get? s.heap.objs.size = some (sObj "set" (#[], 0, .fresh 0 0 led)) := Heap.get?_push_size _ rfl
      have hT : Shared.TypeIs { s with heap := s.heap.push (sObj "set" (#[], 0, .fresh 0 0 led)) } (.ref s.heap.objs.size) "set" := ⟨_, hS, rfl⟩
      have hli := F.called_set.init.lookup
      have hbi := F.called_set.init.bind (.ref s.heap.objs.size)
      repeat (any_goals (first | assumption | wp_step))
      refine codeAny_mono (codeAny_call_builtin (R := wants (fun r s₂ => r = .none ∧ ∃ h' tk, s₂ = { s with heap := h', toks := tk } ∧ SetX P w h' s.heap.objs.size xs.reverse ∧
          (∀ b o, s.heap.get? b = some o → h'.get? b = some o)) E) F.called_set.init.plain F.entry_set_init (check_set_init_1 hT ?_)) fun r₂ s₂ hr₂ => ?_
      · obtain ⟨⟨oc, od, odat, osl⟩, hol, hcl, nl, hdl⟩ := hl
        simp only at hcl hdl
        subst hcl; subst hdl
        have hol' : (s.heap.push (sObj "set" (#[], 0, .fresh 0 0 led))).get? l = some { cls := .type "tuple", dict := od, data := .seq items nl, slots := osl } := Heap.get?_push_of_some _ hol
        have hsls := F.sub_tuple_set
        have hslf := F.sub_tuple_frozenset
        have hne : (Value.type "tuple" == Value.type "dict") = false := by decide
        have hl1 : (s.heap.push (sObj "set" (#[], 0, .fresh 0 0 led))).IsTuple l items := ⟨_, hol', rfl, nl, rfl⟩
        unfold Builtin.«set.__init__» noKeywords Builtin.Frozenset.updateFrom
        generalize hPI : pyIter = PI
        wp_walk
        subst hPI
        refine wpAny_pyIter_tuple hl1 (wpAny_bind (wpAny_runValue ?_))
        have low : l < s.heap.objs.size := Heap.lt_size hol
        have hh3 : A.in1.in1.in1.handled = none := by simp [hh]
        have hz1 : (s.heap.push (sObj "set" (#[], 0, .fresh 0 0 led))).objs.size = s.heap.objs.size + 1 := Heap.size_push ..
        have hneI : l ≠ (s.heap.push (sObj "set" (#[], 0, .fresh 0 0 led))).objs.size := by
          rw [hz1]
          exact Nat.ne_of_lt (Nat.lt_succ_of_lt low)
        have hSf : s.heap.objs.size ∉ [(s.heap.push (sObj "set" (#[], 0, .fresh 0 0 led))).objs.size, l] := by
          rw [hz1]
          simp only [List.mem_cons, List.not_mem_nil, or_false, not_or]
          exact ⟨Nat.ne_of_lt (Nat.lt_succ_self _), Nat.ne_of_gt low⟩
        have hget : ((s.heap.push (sObj "set" (#[], 0, .fresh 0 0 led))).push { cls := .type "tuple_iterator", data := .fields #[.ref l, .int 0 0] }).get? s.heap.objs.size = some (sObj "set" (#[], 0, .fresh 0 0 led)) := Heap.get?_push_of_some _ hS
        refine fill_txt ((Walks.tuple hh3 _ l hneI items).toS) s.heap.objs.size hSf xs size nd hb hval (items.size - 0) 0 _ (by omega) (Nat.zero_le _) ⟨⟨_, Heap.get?_push_size _ rfl, rfl, rfl⟩, (hl1.push _)⟩
          ⟨_, hget, lays_new hled⟩ ?hR
        case hR =>
          intro s' mv hX
          obtain ⟨h', g2, d', tk', os'⟩ := s'
          have eg : g2 = s.gens := mv.gens
          have ed : d' = s.drawn := mv.drawn
          have eo : os' = s.os := mv.os
          subst eg; subst ed; subst eo
          show wpAny _ _ _ _ _ _
          refine wpAny_pure ?_
          show wpAny _ _ (ret Value.none) _ _ _
          refine wpAny_pure ⟨rfl, h', tk', rfl, hX, fun b o e => ?_⟩
          have hb0 : b < s.heap.objs.size := Heap.lt_size e
          exact mv.heap b o (by rw [hz1]; simp only [List.mem_cons, List.not_mem_nil, or_false, not_or]; exact ⟨Nat.ne_of_lt hb0, Nat.ne_of_lt (Nat.lt_succ_of_lt hb0)⟩) (Heap.get?_push_of_some _ (Heap.get?_push_of_some _ e))
      · cases r₂ with
        | error e => exact hr₂
        | ok fl₂ =>
          cases fl₂ with
          | ret r =>
            obtain ⟨rfl, h', tk, rfl, hX, hk'⟩ := hr₂
            repeat (any_goals (first | assumption | wp_step))
            exact h _ _ hX hk'
          | _ => exact hr₂.elim
    | _ => exact hr.elim
/-- its items, gathered in some order -/
theorem collect_setX {a : Addr} {l : List Str} {Q : List Value → Shared → Prop} (hh : A.handled = none) (hX : SetX P w s.heap a l) (hb : l.length < scanBound)
    (hQ : ∀ s' out, (∀ b o, s.heap.get? b = some o → s'.heap.get? b = some o) → s'.gens = s.gens → s'.os = s.os → (out.map strOf).Perm l → (∀ v ∈ out, ∃ t, v = .str (strOf v) t) → Q out s') : wpAny (model P w) A (collect (.ref a)) Q E s := by
  obtain ⟨⟨es, ep, t⟩, ho, ⟨hel, hmem, hsz0, hfit⟩, hr, hl, pl⟩ := hX
  have hsz : es.size = l.length := hsz0
  refine collect_set hh ⟨_, ho, rfl, rfl⟩ hfit (by omega) hr hl fun s' out k1 z g1 o1 pm => ?_
  refine hQ s' out k1 g1 o1 (by
    have q := pm.map strOf
    rw [List.map_map] at q
    exact q.trans pl) fun v hv => ?_
  obtain ⟨e, he, q⟩ := List.mem_map.mp (pm.mem_iff.mp hv)
  obtain ⟨k, hk, _⟩ := (hel e he).1
  rw [q] at hk
  cases v with
  | str y t => exact ⟨t, rfl⟩
  | _ => exact absurd hk Bool.false_ne_true
end
end Od
end
section
set_option maxHeartbeats 2000000
/-! OdSort2: sorted of a dict, of its items, of a set of texts. -/
namespace Od
open PySem PySem.Spec PyProof.Rows L2 PySem.W PySem.SeqAt
section
variable {prog : Program} {w : World} {A : Around} {E : Value → Shared → Prop} {s : Shared}
/-- sorted(v), v whatever can be gathered -/
theorem sorted_from {v : Value} {Q : Value → Shared → Prop}
    (h : ∀ E' : Value → Shared → Prop, wpAny (model prog w) A.in1 (collect v) (fun us s1 => us.length ≤ sizeLine ∧ ∃ κ, SortsAt prog w A.in1.in1 { s1 with heap := sortingHeap (s1.heap.push (seqObj "list" us.toArray 0)) s1.heap.objs.size us } κ us ∧
      Q (.ref s1.heap.objs.size) { s1 with heap := sortedHeap (s1.heap.push (seqObj "list" us.toArray 0)) s1.heap.objs.size us (sortVals κ false us us).toArray }) E' s) :
    wpAny (model prog w) A (call (.builtin "sorted") [v]) Q E s := by
  refine Calls.call_function_entry kind_sorted plain_sorted entry_sorted (args_sorted1 _) ?_
  unfold Builtin.«sorted»
  refine wpAny_bind (m := checkCount "sorted" 1 1 _) (wpAny_pure ?_)
  refine wpAny_bind (wpAny_mono (h _) (fun us s1 ⟨hz, κ, S, q⟩ => ?_) fun _ _ e => e)
  refine wpAny_bind (wpAny_newList ?_ hz)
  have at_ : (s1.heap.push (seqObj "list" us.toArray 0)).get? s1.heap.objs.size = some (seqObj "list" us.toArray 0) := Heap.get?_push_size _ rfl
  refine wpAny_bind (wpAny_holding (wpAny_call_entry slot_list_sort ⟨_, at_, rfl⟩ entry_list_sort (list_sort_vals (s := { s1 with heap := s1.heap.push (seqObj "list" us.toArray 0) }) at_ S hz ⟨_, rfl, wpAny_pure ⟨_, rfl, q⟩⟩) (args_list_sort _)))
end
theorem merge_perm {ds ds' : List PyData} (p : ds'.Perm ds) (h : strictly (isort ds) = true) : ds'.mergeSort (dataLe false id) = isort ds := by
  have T := sortLe_total (listOrd itemOrd) false (fun b : PyData => keyToks (id b))
  refine perm_one (lt := dataLt) (fun a => lex_irrefl (O := itemOrd) _) (((List.mergeSort_perm ds' _).trans p).trans (isort_perm ds).symm) ?_ (strictly_pw h)
  refine (List.pairwise_mergeSort (le := dataLe false id) (fun a b c => T.trans a b c) (fun a b => ?_) ds').imp ?_
  · have q : dataLe false id a b = true ∨ dataLe false id b a = true := T.total a b
    simpa using q
  · intro a b hab
    have : (!dataLt b a) = true := hab
    simpa using this
theorem sorting_push_old {h : Heap} {us : List Value} {b : Addr} {o : Obj} (e : h.get? b = some o) : (sortingHeap (h.push (seqObj "list" us.toArray 0)) h.objs.size us).get? b = some o :=
  sortingHeap_old (Nat.ne_of_lt (Heap.lt_size e)) (Heap.get?_push_of_some _ e)
/-- behind the gathering: the values are alike data, in some order of ds -/
theorem sort_gathered {X : Cx} {A : Around} {pins : List (Addr × Obj)} {σ : L2.St} {H G : Hp} {s1 : Shared} {us : List Value} {ws : List V} {ds ds' : List PyData} {Q : Value → Shared → Prop} (hu : A.units + 64 < cLine) (I : Inv X pins σ H s1) (vw : Same G H) (rv : Vals ws us) (ra : RpAll X.K G ws ds') (p : ds'.Perm ds) (kd : kindB ds' = true) (ok : sortOk ds = true)
    (k : ∀ v G' H' s2, Nxt G H G' H' → Rp X.K G' v (.list (isort ds)) → Inv X pins σ H' s2 → RelV v (.ref s1.heap.objs.size) → Q (.ref s1.heap.objs.size) s2) :
    us.length ≤ sizeLine ∧ ∃ κ, SortsAt X.prog X.w A.in1.in1 { s1 with heap := sortingHeap (s1.heap.push (seqObj "list" us.toArray 0)) s1.heap.objs.size us } κ us ∧
      Q (.ref s1.heap.objs.size) { s1 with heap := sortedHeap (s1.heap.push (seqObj "list" us.toArray 0)) s1.heap.objs.size us (sortVals κ false us us).toArray } := by
  have lu : us.length = ds.length := by rw [← rv.length, ra.length, p.length_eq]
  have hz : ds.length ≤ 1000000 := sortOk_len ok
  have al : alikeB ds' = true := List.all_eq_true.mpr fun d hd => List.all_eq_true.mpr fun d' hd' => List.all_eq_true.mp (List.all_eq_true.mp (sortOk_alike ok) d (p.mem_iff.mp hd)) d' (p.mem_iff.mp hd')
  have dp : ∀ d ∈ ds', d.depth ≤ 32 := fun d hd => sortOk_depth ok d (p.mem_iff.mp hd)
  have cl : (ds'.all fun d => d.canLay0) = true := List.all_eq_true.mpr fun d hd => by
    have ok' := ok
    unfold sortOk at ok'
    rw [Bool.and_eq_true, Bool.and_eq_true, Bool.and_eq_true, Bool.and_eq_true] at ok'
    have q := List.all_eq_true.mp ok'.1.2 d (p.mem_iff.mp hd)
    rw [Bool.and_eq_true] at q
    exact q.2
  have st : strictly (isort ds) = true := by
    have ok' := ok
    unfold sortOk at ok'
    rw [Bool.and_eq_true] at ok'
    exact ok'.2
  obtain ⟨bs, e1, e2, e3, e4⟩ := reads_all I vw rv ra cl
  refine ⟨by rw [lu]; exact small_line hz, dataKind (sortingHeap (s1.heap.push (seqObj "list" us.toArray 0)) s1.heap.objs.size us) (bs.map fun b => b.2), ?_, ?_⟩
  · refine kind_sorts (A := A.in1.in1) (s := { s1 with heap := sortingHeap (s1.heap.push (seqObj "list" us.toArray 0)) s1.heap.objs.size us }) (each_imp (each_data (fun _ _ => sorting_push_old) e4)) (by rw [e2]; exact al) (by rw [e2]; exact kd) fun d hd => ?_
    rw [e2] at hd
    have q := dp d hd
    show A.units + 2 + d.depth < cLine
    omega
  · have e4' := each_data (h' := sortingHeap (s1.heap.push (seqObj "list" us.toArray 0)) s1.heap.objs.size us) (fun _ _ => sorting_push_old) e4
    have eo := sortVals_data (h' := sortingHeap (s1.heap.push (seqObj "list" us.toArray 0)) s1.heap.objs.size us) (enc := fun b : V × PyData => b.2) false e4' (e4'.mono fun _ _ q => q.2) (by
      rw [e2]
      exact fun d hd d' hd' => List.all_eq_true.mp (List.all_eq_true.mp al d hd) d' hd')
    generalize sortVals (dataKind (sortingHeap (s1.heap.push (seqObj "list" us.toArray 0)) s1.heap.objs.size us) (bs.map fun b => b.2)) false us us = out at eo ⊢
    have q := rpAll_of (K := X.K) (G := G) (bs := bs.mergeSort (dataLe false fun b => b.2)) fun b hb => e3 b ((List.mergeSort_perm _ _).mem_iff.mp hb)
    rw [merge_map, e2, merge_perm p st] at q
    have w1 := vals_each eo
    have at_ : (s1.heap.push (seqObj "list" us.toArray 0)).get? s1.heap.objs.size = some (seqObj "list" us.toArray 0) := Heap.get?_push_size _ rfl
    obtain ⟨c, hc⟩ := sortedHeap_at (vs := us) (out := out.toArray) at_
    have hf : H s1.heap.objs.size = none := I.hok.fresh (Nat.le_refl _)
    refine k (.ref s1.heap.objs.size) _ _ _ (Nxt.upd vw hf) (.lst upd_same (q.mono (same_upd (vw.free hf)))) (I.laid (t' := s1.toks) (fun b o e => ?_) (Nat.le_refl _) ⟨by rw [q.length, isort_len]; exact small_line hz, out, c, w1, hc⟩) rfl
    have hb := Heap.lt_size e
    rw [sortedHeap_old (Nat.ne_of_lt hb) (by rw [size_push']; exact Nat.lt_succ_of_lt hb)]
    exact Heap.get?_push_of_some _ e
/-! ### a dict -/
def sortKD : List PyData → Option PyData
  | [.dict es] => if es.all (fun e => otherB e.1) then sortL (es.map (·.1)) else none
  | _ => none
theorem kv_keys {K : PySem.W.Frag} {G : Hp} : ∀ {kvs : List (Key × V)} {es : Es}, RpKv K G kvs es → RpAll K G (kvs.map fun kv => kV kv.1) (es.map (·.1))
  | _, _, .nil => .nil
  | _, _, .cons h r => .cons (.str _) (kv_keys r)
theorem vals_ix : ∀ {xs : List V} {us : List Value}, xs.length = us.length → (∀ (j : Nat) (x : V) (u : Value), xs[j]? = some x → us[j]? = some u → RelV x u) → Vals xs us
  | [], [], _, _ => .nil
  | [], _ :: _, h, _ => by simp at h
  | _ :: _, [], h, _ => by simp at h
  | x :: xs, u :: us, h, f => .cons (f 0 x u rfl rfl) (vals_ix (by simpa using h) fun j y w h1 h2 => f (j + 1) y w (by simpa using h1) (by simpa using h2))
theorem others_kind {ds : List PyData} (h : ds.all otherB = true) : kindB ds = true := by
  unfold kindB
  rw [h]
  simp
theorem call_sortKD {X : Cx} (hc : X.calm = true) (hu : X.A.units + 64 < cLine) : CallR X (.builtin "sorted") (rDn X.K sortKD) := by
  intro pins s σ H xs us Q I r h
  obtain ⟨G, ds, d, vw, hx, e, k⟩ := h
  unfold sortKD at e
  split at e
  · rename_i es
    split at e
    · rename_i ho
      unfold sortL at e
      split at e
      · rename_i ok
        cases e
        obtain ⟨v, rfl, h⟩ := one_rp hx
        cases h with
        | @dic a kvs _ ha ra =>
          obtain ⟨u, rfl, rx⟩ := vals1 r
          cases rx
          obtain ⟨z, lo, vs, rk, hd⟩ := (show ObjOk X.prog X.w H s.heap a (.dK kvs) from I.hok a _ (vw _ _ ha))
          obtain ⟨ep, hat⟩ := hd.dictAt
          have hl : kvs.length = vs.length := Paired.length rk
          refine sorted_from fun E' => PySem.W.kdu_collect (PySem.W.kdl_dict (knd := mixKind X.prog X.w) (kvs := vs) (ep := ep) lo) (show X.A.in1.handled = none from I.ok.hd hc) hat (by rw [← hl]; exact z) fun h' tk acc hk hacc => ?_
          have I1 : Inv X pins σ H { s with heap := h', toks := tk } := I.kept hk
          have rv : Vals (kvs.map fun kv => kV kv.1) acc.toList := by
            have el : acc.toList.length = acc.size := Array.length_toList
            refine vals_ix (by rw [List.length_map, el, hacc.1, hl]) fun j x w h1 h2 => ?_
            obtain ⟨key, y, hky, hi⟩ := hacc.2 j w (by rw [← Array.getElem?_toList]; exact h2)
            have e1 : (kvs.map (·.1))[j]? = some key := by
              rw [KV.keys rk, List.getElem?_map, hky] <;> rfl
            rw [List.getElem?_map] at h1 e1
            cases q : kvs[j]? with
            | none => rw [q] at h1; cases h1
            | some p =>
              rw [q] at h1 e1
              cases h1
              have e2 : p.1 = key := Option.some.inj e1
              show L2.RelV (kV p.1) w
              rw [e2]
              exact relV_key hi
          refine sort_gathered hu I1 vw rv (kv_keys ra) (.refl _) (others_kind ?_) ok fun v G' H' s2 n r' I2 rv' => ⟨v, H', I2, rv', k v G' H' n r'⟩
          rw [List.all_map]
          exact ho
      · cases e
    · cases e
  · cases e
/-! ### the items of a dict -/
def putF : Hp → List Addr → List HO → Hp
  | H, a :: as, o :: os => putF (upd H a o) as os
  | H, _, _ => H
theorem putF_off {b : Addr} : ∀ (as : List Addr) (os : List HO) (H : Hp), b ∉ as → putF H as os b = H b
  | [], _, _, _ => rfl
  | _ :: _, [], _, _ => rfl
  | a :: as, o :: os, H, h => by
    show putF (upd H a o) as os b = H b
    rw [putF_off as os _ (fun z => h (List.mem_cons_of_mem _ z)), upd_ne (fun z => h (by rw [z]; exact List.mem_cons_self))]
theorem putF_at : ∀ (as : List Addr) (os : List HO) (H : Hp), as.length = os.length → as.Nodup → Paired (fun (t : Addr) (o : HO) => putF H as os t = some o) as os
  | [], [], _, _, _ => .nil
  | [], _ :: _, _, h, _ => by cases h
  | _ :: _, [], _, h, _ => by cases h
  | a :: as, o :: os, H, h, hn => by
    have hn' := List.nodup_cons.mp hn
    refine .cons ?_ (putF_at as os (upd H a o) (Nat.succ.inj h) hn'.2)
    show putF (upd H a o) as os a = some o
    rw [putF_off as os _ hn'.1, upd_same]
theorem putF_nxt : ∀ (as : List Addr) (os : List HO) {G H : Hp}, Same G H → (∀ a ∈ as, H a = none) → as.Nodup → Nxt G H (putF G as os) (putF H as os)
  | [], _, G, H, vw, _, _ => Nxt.refl vw
  | _ :: _, [], G, H, vw, _, _ => Nxt.refl vw
  | a :: as, o :: os, G, H, vw, h, hn => by
    have hn' := List.nodup_cons.mp hn
    have n1 := Nxt.upd (o := o) vw (h a List.mem_cons_self)
    exact n1.trans (putF_nxt as os n1.v (fun b hb => by
      rw [upd_ne (fun z => hn'.1 (by rw [← z]; exact hb))]
      exact h b (List.mem_cons_of_mem _ hb)) hn'.2)
/-- objects that a call has made, all of them tracked at once -/
theorem track_all {X : Cx} {pins : List (Addr × Obj)} {σ : L2.St} {H : Hp} {s : Shared} {h' : Heap} {tk : Nat} (I : Inv X pins σ H s) (hk : ∀ b o, s.heap.get? b = some o → h'.get? b = some o) (as : List Addr) (os : List HO) (hl : as.length = os.length) (nd : as.Nodup) (low : ∀ a ∈ as, s.heap.objs.size ≤ a)
    (ok : ∀ (H' : Hp) (j : Nat) (a : Addr) (o : HO), as[j]? = some a → os[j]? = some o → ObjOk X.prog X.w H' h' a o) : Inv X pins σ (putF H as os) { s with heap := h', toks := tk } := by
  have new : ∀ t ∈ as, H t = none := fun t ht => I.hok.fresh (low t ht)
  have kp : ∀ b u, H b = some u → putF H as os b = some u := fun b u e => by
    rw [putF_off as os H (fun z => by rw [new b z] at e; cases e)]
    exact e
  have atP := putF_at as os H hl nd
  refine I.call' (ch := []) rfl ⟨fun b o q _ _ _ => hk b o q, fun b o q _ _ _ => ⟨o.slots, hk b o q⟩, fun b o q n _ => ?_, fun b o q _ => ⟨o, hk b o q⟩, fun b xs q => kp b _ q, fun b o u q => kp b _ q, fun b ps q => ⟨#[], by rw [kp b _ q]; simp⟩⟩ (fun b u q => ?_) I.bare fun b z => by simp at z
  · rw [putF_off as os H (fun z => Nat.lt_irrefl _ (Nat.lt_of_lt_of_le (Heap.lt_size q) (low b z)))]
    exact n
  · by_cases hb : b ∈ as
    · obtain ⟨j, pk, e1, e2, e3⟩ := LiI.paired_ix atP hb
      rw [e3] at q
      cases q
      exact ok _ j b _ e1 e2
    · rw [putF_off as os H hb] at q
      exact (I.hok b u q).stay (fun d v _ y => hk d v y) (fun d y => kp d _ y) fun d xs y => kp d _ y
def itemD (e : PyData × PyData) : PyData := .tuple [e.1, e.2]
def sortItemsD : PyData → Option PyData
  | .dict es => sortL (es.map itemD)
  | _ => none
theorem items_kind : ∀ {es : Es}, kindB (es.map itemD) = true := by
  intro es
  unfold kindB
  have h : (es.map itemD).all tup1B = true := by
    rw [List.all_map]
    exact List.all_eq_true.mpr fun e _ => rfl
  rw [h]
  rfl
theorem kv_ix {K : PySem.W.Frag} {G : Hp} : ∀ {kvs : List (Key × V)} {es : Es} {j : Nat} {p : Key × V}, RpKv K G kvs es → kvs[j]? = some p → ∃ e, es[j]? = some e ∧ Rp K G (kV p.1) e.1 ∧ Rp K G p.2 e.2
  | _, _, j, p, .nil, h => by simp at h
  | _, _, 0, p, .cons h r, e => by
    cases e
    exact ⟨_, rfl, .str _, h⟩
  | _, _, j + 1, p, .cons h r, e => by
    obtain ⟨e', h1, h2⟩ := kv_ix (j := j) (p := p) r (by simpa using e)
    exact ⟨e', by simpa using h1, h2⟩
theorem rpAll_ix {K : PySem.W.Frag} {G : Hp} : ∀ {vs : List V} {ds : List PyData}, vs.length = ds.length → (∀ (j : Nat) (v : V) (d : PyData), vs[j]? = some v → ds[j]? = some d → Rp K G v d) → RpAll K G vs ds
  | [], [], _, _ => .nil
  | [], _ :: _, h, _ => by simp at h
  | _ :: _, [], h, _ => by simp at h
  | v :: vs, d :: ds, h, f => .cons (f 0 v d rfl rfl) (rpAll_ix (by simpa using h) fun j w e h1 h2 => f (j + 1) w e (by simpa using h1) (by simpa using h2))
section
variable {X : Cx} {e : Expr} {t : DE} {p apos cpos pos : Pos}
def pairHO (h : Heap) (a : Addr) (q : Key × V) : HO := .frz ((h.get? a).getD { cls := .type "tuple", data := .seq #[] }) (.tup [kV q.1, q.2])
theorem pd_sortedItems (hc : X.calm = true) (hu : X.A.units + 64 < cLine) (hg : Gl X "sorted") (hm : X.mg "sorted" = none) (hv : bootBuiltins "sorted" = some (.builtin "sorted")) (he : PE X e (liE X.K t)) (hbase : attributeBase e "items" X.env (eval e X.env) = eval e X.env := by rfl) (hline : (apos.endLine == cpos.line) = true := by rfl)
    (hs : starEach [.Call (.Attribute e "items" apos) [] [] cpos] X.env = (false, eval (.Call (.Attribute e "items" apos) [] [] cpos) X.env) :: starEach [] X.env := by rfl) :
    PE X (.Call (.Name "sorted" p) [.Call (.Attribute e "items" apos) [] [] cpos] [] pos) (liE X.K (d1 sortItemsD t)) := by
  refine ⟨fun pins s σ H Q I ⟨G, ρ, d, vw, sl, e1, k⟩ => ?_⟩
  unfold d1 at e1
  cases h1 : t ρ with
  | none => rw [h1] at e1; cases e1
  | some dd =>
  rw [h1] at e1
  have e2 : sortItemsD dd = some d := e1
  unfold sortItemsD at e2
  split at e2
  rotate_left
  · cases e2
  rename_i es
  unfold sortL at e2
  split at e2
  rotate_left
  · cases e2
  rename_i ok
  cases e2
  refine wpAny_Call_Name_kw (ld_blt I hg hm hv ?_)
  refine Calls.callWith_builtin ?_ (Calls.evalArgs_plain ?_)
  · rw [hs] <;> rfl
  show wpAny _ _ (spliced ((false, eval (.Call (.Attribute e "items" apos) [] [] cpos) X.env) :: backTo pos (starEach [] X.env))) _ _ s
  refine Calls.spliced_cons ?_
  refine wpAny_Call_method (T := "dict") (id := "dict.items") hbase rfl hline F.plainAttrs_dict F.slot_dict_items F.type_dict_items (thn (he.run pins s σ H (fun v H1 => ∃ G1, Nxt G H G1 H1 ∧ Rp X.K G1 v (.dict es)) I ⟨G, ρ, _, vw, sl, h1, fun v G1 H1 n1 r1 => ⟨G1, n1, r1⟩⟩) fun u s1 ⟨x, H1, I1, rx, G1, n1, r1⟩ => ?_)
  cases r1 with
  | @dic a kvs _ ha ra =>
  obtain rfl : u = Value.ref a := rx
  obtain ⟨hz, hs0, vs, kv, hdo⟩ := (show ObjOk X.prog X.w H1 s1.heap a (.dK kvs) from I1.hok a _ (n1.v _ _ ha))
  obtain ⟨ep, hat⟩ := hdo.dictAt
  have lk : kvs.length = vs.length := Paired.length kv
  have I2 : Inv X pins σ H1 { s1 with heap := s1.heap.push { cls := .type "dict_items", data := .fields #[.ref a] } } := I1.kept (t' := s1.toks) fun b ob q => Heap.get?_push_of_some _ q
  refine ⟨hdo.typeIs, hdo.mapOf.noDict, ?_⟩
  show wpAny _ _ (callWith cpos (.builtin "dict.items") [.ref a] [] []) _ X.xe s1
  refine method_meetsIn F.slot_dict_items F.entry_dict_items rfl (PySem.evalArgs_none ⟨rfl, hdo.typeIs, F.args_dict_items_1 _, _, meets_dict_items (mixKind X.prog X.w) a hs0, ⟨vs, hdo⟩, ?_⟩)
  refine Calls.spliced_nil ?_
  refine sorted_from fun E' => PySem.W.kdx_collect (knd := mixKind X.prog X.w) (kvs := vs) (ep := ep) (show X.A.in1.handled = none from I1.ok.hd hc) ⟨_, Heap.get?_push_size _ rfl, rfl, rfl⟩ (hat.push _) (by omega) fun h' tk as hk hl hG => ?_
  have nd : as.Nodup := List.Pairwise.imp (fun {a b} (h : a < b) => Nat.ne_of_lt h) hG.rise
  have low : ∀ b ∈ as, (s1.heap.push { cls := .type "dict_items", data := .fields #[.ref a] }).objs.size ≤ b := fun b hb => Nat.le_of_lt (hG.above b hb)
  generalize eos : (as.zip kvs).map (fun q => pairHO h' q.1 q.2) = os
  have los : as.length = os.length := by rw [← eos, List.length_map, List.length_zip]; omega
  have osj : ∀ (j : Nat) (b : Addr) (o : HO), as[j]? = some b → os[j]? = some o → ∃ (q : Key × V) (key : Value × Value), kvs[j]? = some q ∧ o = .frz { cls := .type "tuple", data := .seq #[key.1, key.2] } (.tup [kV q.1, q.2]) ∧ h'.get? b = some { cls := .type "tuple", data := .seq #[key.1, key.2] } ∧ RelV (kV q.1) key.1 ∧ RelV q.2 key.2 := fun j b o e3 e4 => by
    obtain ⟨key, kk, x, f1, f2, f3⟩ := hG.pairs j b e3
    have hj : j < kvs.length := by
      have := (List.getElem?_eq_some_iff.mp f1).1
      omega
    have e5 : kvs[j]? = some kvs[j] := List.getElem?_eq_getElem hj
    obtain ⟨qv, g1, g2, g3⟩ := LiI.paired_get kv e5
    rw [f1] at g1
    cases g1
    rw [← eos, List.getElem?_map, (List.getElem?_zip_eq_some (z := (b, kvs[j]))).mpr ⟨e3, e5⟩] at e4
    cases e4
    refine ⟨kvs[j], (key, x), e5, ?_, f3, ?_, g3⟩
    · unfold pairHO
      dsimp only
      rw [f3]
      rfl
    · rw [g2]
      exact relV_key f2
  have I3 := track_all (tk := tk) I2 hk as os los nd low fun H' j b o e3 e4 => by
    obtain ⟨q, key, f1, rfl, f3, f4, f5⟩ := osj j b o e3 e4
    exact ⟨f3, by show 2 ≤ sizeLine; decide, [key.1, key.2], .cons f4 (.cons f5 .nil), ⟨_, f3, rfl, _, rfl⟩⟩
  have n2 := putF_nxt as os n1.v (fun b hb => I2.hok.fresh (low b hb)) nd
  have atG := putF_at as os G1 los nd
  have ra2 : RpAll X.K (putF G1 as os) (as.map V.ref) (es.map itemD) := by
    refine rpAll_ix (by rw [List.length_map, List.length_map, hl, ← lk, ra.length]) fun j v d h3 h4 => ?_
    rw [List.getElem?_map] at h3 h4
    cases q3 : as[j]? with
    | none => rw [q3] at h3; cases h3
    | some b =>
    cases q4 : es[j]? with
    | none => rw [q4] at h4; cases h4
    | some en =>
    rw [q3] at h3
    rw [q4] at h4
    cases h3
    cases h4
    have hj : j < os.length := by
      have := (List.getElem?_eq_some_iff.mp q3).1
      omega
    have e5 : os[j]? = some os[j] := List.getElem?_eq_getElem hj
    obtain ⟨q, key, f1, f2, f3, f4, f5⟩ := osj j b _ q3 e5
    obtain ⟨o', g1, g2⟩ := LiI.paired_get atG q3
    rw [e5] at g1
    cases g1
    obtain ⟨en', w1, w2, w3⟩ := kv_ix ra f1
    rw [q4] at w1
    cases w1
    refine .tup ⟨_, ?_, by rw [g2, f2]⟩ (.cons (w2.mono n2.g) (.cons (w3.mono n2.g) .nil))
    rfl
  exact sort_gathered hu I3 n2.v (LiI.vals_refs as) ra2 (.refl _) items_kind ok fun v G' H' s2 n r' I4 rv' => ⟨v, H', I4, rv', k v G' H' ((n1.trans n2).trans n) r'⟩
/-! ### a set of texts -/
def sortSetD : PyData → Option PyData
  | .tuple ds => if ds.all (fun d => match d with | .str _ => true | _ => false) && decide (ds.length ≤ 60) then sortL ds else none
  | _ => none
theorem strs_kind {xs : List Str} : kindB (xs.map PyData.str) = true := by
  refine others_kind ?_
  rw [List.all_map]
  exact List.all_eq_true.mpr fun _ _ => rfl
theorem vals_strs {xs : List Str} : ∀ {us : List Value}, Vals (xs.map V.str) us → us.length = xs.length ∧ ∀ (i : Nat) (v : Value), us[i]? = some v → ∃ k t, xs[i]? = some k ∧ v = .str k t := by
  induction xs with
  | nil =>
    intro us r
    cases r
    exact ⟨rfl, fun i v h => by simp at h⟩
  | cons x xs ih =>
    intro us r
    rw [List.map_cons] at r
    cases r with
    | cons h t =>
      obtain ⟨h1, h2⟩ := ih t
      refine ⟨by rw [List.length_cons, List.length_cons, h1], fun i v hv => ?_⟩
      cases i with
      | zero =>
        cases hv
        obtain ⟨t, rfl⟩ := h
        exact ⟨x, t, rfl, rfl⟩
      | succ i =>
        obtain ⟨k, t, a, b⟩ := h2 i v (by simpa using hv)
        exact ⟨k, t, by simpa using a, b⟩
theorem strict_nodup {ds : List PyData} (h : strictly (isort ds) = true) : ds.Nodup := by
  refine (isort_perm ds).nodup_iff.mp ((strictly_pw h).imp fun {a b} h e => ?_)
  rw [e] at h
  have z : dataLt b b = false := lex_irrefl (O := itemOrd) _
  rw [z] at h
  cases h
theorem nodup_of_map {xs : List Str} (h : (xs.map PyData.str).Nodup) : xs.Nodup := by
  induction xs with
  | nil => exact List.nodup_nil
  | cons x xs ih =>
    rw [List.map_cons, List.nodup_cons] at h
    rw [List.nodup_cons]
    exact ⟨fun z => h.1 (List.mem_map.mpr ⟨x, z, rfl⟩), ih h.2⟩
theorem strs_vals : ∀ {out : List Value}, (∀ v ∈ out, ∃ t, v = .str (strOf v) t) → Vals ((out.map strOf).map V.str) out
  | [], _ => .nil
  | v :: r, h => by
    obtain ⟨t, e⟩ := h v List.mem_cons_self
    exact .cons ⟨t, e⟩ (strs_vals fun u hu => h u (List.mem_cons_of_mem _ hu))
theorem pd_sortedSet {p2 pos2 : Pos} (hc : X.calm = true) (hu : X.A.units + 64 < cLine) (hg : Gl X "sorted") (hm : X.mg "sorted" = none) (hv : bootBuiltins "sorted" = some (.builtin "sorted")) (hg2 : Gl X "set") (hm2 : X.mg "set" = none) (hv2 : bootBuiltins "set" = some (.type "set")) (he : PE X e (liE X.K t))
    (hs : starEach [.Call (.Name "set" p2) [e] [] pos2] X.env = (false, eval (.Call (.Name "set" p2) [e] [] pos2) X.env) :: starEach [] X.env := by rfl) (hs2 : starEach [e] X.env = (false, eval e X.env) :: starEach [] X.env := by rfl) :
    PE X (.Call (.Name "sorted" p) [.Call (.Name "set" p2) [e] [] pos2] [] pos) (liE X.K (d1 sortSetD t)) := by
  refine ⟨fun pins s σ H Q I ⟨G, ρ, d, vw, sl, e1, k⟩ => ?_⟩
  unfold d1 at e1
  cases h1 : t ρ with
  | none => rw [h1] at e1; cases e1
  | some dd =>
  rw [h1] at e1
  have e2 : sortSetD dd = some d := e1
  unfold sortSetD at e2
  split at e2
  rotate_left
  · cases e2
  rename_i ds
  split at e2
  rotate_left
  · cases e2
  rename_i hst
  rw [Bool.and_eq_true] at hst
  have hlen : ds.length ≤ 60 := of_decide_eq_true hst.2
  obtain ⟨xs, exs⟩ := all_strs hst.1
  unfold sortL at e2
  split at e2
  rotate_left
  · cases e2
  rename_i ok
  cases e2
  have hsz : xs.length ≤ 60 := by rw [exs, List.length_map] at hlen; exact hlen
  refine wpAny_Call_Name_kw (ld_blt I hg hm hv ?_)
  refine Calls.callWith_builtin ?_ (Calls.evalArgs_plain ?_)
  · rw [hs] <;> rfl
  show wpAny _ _ (spliced ((false, eval (.Call (.Name "set" p2) [e] [] pos2) X.env) :: backTo pos (starEach [] X.env))) _ _ s
  refine Calls.spliced_cons ?_
  refine wpAny_Call_Name_kw (ld_blt I hg2 hm2 hv2 ?_)
  refine PyProof.Rows.callWith_type1 ?_ hs2 rfl
  rw [hs2]
  show wpAny _ _ (spliced ((false, eval e X.env) :: backTo pos2 (starEach [] X.env))) _ _ s
  refine Calls.spliced_cons (thn (he.run pins s σ H (fun v H1 => ∃ G1, Nxt G H G1 H1 ∧ Rp X.K G1 v (.tuple ds)) I ⟨G, ρ, _, vw, sl, h1, fun v G1 H1 n1 r1 => ⟨G1, n1, r1⟩⟩) fun u s1 ⟨x, H1, I1, rx, G1, n1, r1⟩ => ?_)
  refine Calls.spliced_nil ?_
  cases r1 with
  | @tup a ws _ ha ra =>
  obtain rfl : u = Value.ref a := rx
  rw [exs] at ra
  have ew := RpAll.of_strs ra
  subst ew
  obtain ⟨its, rv, pl, hz⟩ := I1.tuple (ha.mono n1.v).sq
  obtain ⟨l1, l2⟩ := vals_strs rv
  have nd : xs.Nodup := nodup_of_map (by
    rw [← exs]
    refine strict_nodup ?_
    unfold sortOk at ok
    rw [Bool.and_eq_true] at ok
    exact ok.2)
  refine call_set_tupX xs (I1.ok.hd hc) (show s1.heap.IsTuple a its.toArray from pl) (by simpa using l1) (fun i v hv => l2 i v (by simpa using hv)) nd (by unfold scanBound; omega) fun h2 tk2 hX hk2 => ?_
  have I2 : Inv X pins σ H1 { s1 with heap := h2, toks := tk2 } := I1.kept hk2
  refine Calls.spliced_nil ?_
  refine sorted_from fun E' => collect_setX (A := X.A.in1) (s := { s1 with heap := h2, toks := tk2 }) (show X.A.in1.handled = none from I1.ok.hd hc) hX (by rw [List.length_reverse]; unfold scanBound; omega) fun s3 out k3 g3 o3 pm hout => ?_
  have I3 : Inv X pins σ H1 s3 := I2.call' (ch := []) o3 (Un.kept k3) (I2.hok.kept k3) (by rw [g3]; exact I2.bare) fun b z => by simp at z
  have pm2 : ((out.map strOf).map PyData.str).Perm ds := by
    rw [exs]
    exact (pm.trans (List.reverse_perm xs)).map _
  exact sort_gathered hu I3 n1.v (strs_vals hout) (RpAll.strs (out.map strOf)) pm2 strs_kind ok fun v G' H' s2 n r' I4 rv' => ⟨v, H', I4, rv', k v G' H' (n1.trans n) r'⟩
end
end Od
end
section
set_option maxHeartbeats 2000000
/-! OdKeys: [str(t) for t in d]; dicts compared. -/
namespace Od
open PySem PySem.Spec PyProof.Rows L2
def keysD : PyData → Option PyData
  | .dict es => if es.length ≤ 1000000 then some (.list (es.map (·.1))) else none
  | _ => none
theorem kv_strs {K : PySem.W.Frag} {G : Hp} : ∀ {kvs : List (Key × V)} {es : Es}, RpKv K G kvs es → ∃ xs : List Str, es.map (·.1) = xs.map PyData.str ∧ kvs.map (·.1) = xs.map Sum.inr
  | _, _, .nil => ⟨[], rfl, rfl⟩
  | _, _, .cons (x := x) h r => by
    obtain ⟨xs, h1, h2⟩ := kv_strs r
    exact ⟨x :: xs, by rw [List.map_cons, List.map_cons, h1], by rw [List.map_cons, List.map_cons, h2]⟩
theorem lc_str {j : Nat} {ρ : DEnv} (hj : j < ρ.length) : ∀ xs : List Str, lcGo (tgN j) dYes (dN strD (dArgs [dVar j])) ρ (xs.map PyData.str) = some (xs.map PyData.str)
  | [] => rfl
  | x :: r => by
    have e1 : dVar j (ρ.set j (some (.str x))) = some (.str x) := by
      unfold dVar
      rw [List.getElem?_set_self hj]
    have e2 : dN strD (dArgs [dVar j]) (ρ.set j (some (.str x))) = some (.str x) := by
      unfold dN dArgs
      rw [e1]
      rfl
    rw [List.map_cons]
    unfold lcGo tgN dYes
    dsimp only
    rw [e2]
    have ih := lc_str hj r
    unfold tgN dYes at ih
    rw [ih]
def dKeys (i j : Nat) : DE := fun ρ => if j < ρ.length then d1 keysD (dVar i) ρ else none
theorem walkD_keys {K : PySem.W.Frag} {G : Hp} {d : Addr} {o : Obj} {kvs : List (Key × V)} {xs : List Str} (hd : G d = some (.frz o (.dK kvs))) (hx : kvs.map (·.1) = xs.map Sum.inr) : WalkD (Rp K) (Itk d o kvs) (xs.map PyData.str) G := by
  have hl : kvs.length = xs.length := by
    have q := congrArg List.length hx
    rwa [List.length_map, List.length_map] at q
  have w := walk_keys (d := d) (o := o) (kvs := kvs)
  refine ⟨fun i H hi s => w.goes i H (by rw [List.length_map] at hi; omega) (s _ _ hd), fun H s => ?_, fun i H x H' dd G1 hdd s1 s2 y => ?_⟩
  · have q := w.stops H (s _ _ hd)
    rw [List.length_map, ← hl]
    exact q
  · have hi : i < (xs.map PyData.str).length := (List.getElem?_eq_some_iff.mp hdd).1
    obtain ⟨rfl, k, v, h1, rfl⟩ := w.yields i H x H' (by rw [List.length_map] at hi; omega) (s2 _ _ (s1 _ _ hd)) y
    have e1 : (kvs.map (·.1))[i]? = some k := by rw [List.getElem?_map, h1] <;> rfl
    rw [hx, List.getElem?_map] at e1
    rw [List.getElem?_map] at hdd
    cases q : xs[i]? with
    | none => rw [q] at hdd; cases hdd
    | some x =>
      rw [q] at hdd e1
      cases hdd
      cases e1
      exact ⟨G1, Nxt.refl s2, .str x⟩
section
variable {X : Cx} {y : Str} {i j : Nat} {elt tg : Expr} {scope : Scope} {own : List (Str × Nat)} {ppos pos : Pos}
theorem pd_keysStr (hc : X.calm = true) (hN : X.N.Nodup) (hi : X.N[i]? = some y) (hv : Vis X.env.scope y) (ok : BlkOk X.N X.env.scope scope own) (hown : own.map (·.2) = [j])
    (hg : ∀ (s : Shared) (H : Hp) (C : Addr) (cl : List (Str × Addr)) (fp : List Addr), PG (X.blk s H scope (compEnvC scope cl C X.env) fp) tg (liG X.K (Rp X.K) [j] (tgN j)))
    (he : ∀ (s : Shared) (H : Hp) (C : Addr) (cl : List (Str × Addr)) (fp : List Addr), PE (X.blk s H scope (compEnvC scope cl C X.env) fp) elt (liE X.K (dN strD (dArgs [dVar j])))) (hd : (y == ("__debug__" : Str)) = false := by decide)
    (hcd : (y == ("__classdict__" : Str)) = false := by decide) : PE X (.ListComp elt [⟨tg, .Name y ppos, [], 0⟩] scope pos) (liE X.K (dKeys i j)) := by
  have base := pe_lock (pe_lc (pos := pos) (tt := liT X.K dYes) hc hN (pi_keys (tg := tg) (pe_var (pos := ppos) hi hv hd hcd)) ok hg (fun s H C cl fp => pdts_nil (X := X.blk s H scope (compEnvC scope cl C X.env) fp)) he (by intro _; rfl))
  refine PE.imp base fun σ H Q ⟨G, ρ, r, vw, sl, e1, k⟩ => ?_
  unfold dKeys at e1
  split at e1
  rotate_left
  · cases e1
  rename_i hj
  unfold d1 dVar at e1
  cases h1 : ρ[i]? with
  | none => rw [h1] at e1; cases e1
  | some od =>
  rw [h1] at e1
  cases od with
  | none => cases e1
  | some dd =>
  have e2 : keysD dd = some r := e1
  unfold keysD at e2
  split at e2
  rotate_left
  · cases e2
  rename_i es
  split at e2
  rotate_left
  · cases e2
  rename_i hz
  cases e2
  obtain ⟨v, hv1, hv2⟩ := sl.at_ i _ h1
  cases hv2 with
  | @dic d kvs _ hdG ra =>
  have hdH : H d = some (.dK kvs) := vw _ _ hdG
  obtain ⟨xs, x1, x2⟩ := kv_strs ra
  refine ⟨d, .dK kvs, hdH, True.intro, fun o => ⟨.ref d, hv1, d, o, rfl, .inl ⟨kvs, upd_same, fun D hD => ?_⟩⟩⟩
  have vw0 : Same (upd (fun _ => none) d (.frz o (.dK kvs))) (upd H d (.frz o (.dK kvs))) := fun b u q => by
    by_cases hb : b = d
    · subst hb
      rw [upd_same] at q ⊢
      exact q
    · rw [upd_ne hb] at q
      cases q
  have s0 : Sl X.K (upd (fun _ => none) d (.frz o (.dK kvs))) σ (List.replicate ρ.length none) := ⟨by rw [List.length_replicate]; exact sl.len, fun i dd q => by
    rw [List.getElem?_replicate] at q
    split at q <;> cases q⟩
  have hlc := lc_str (j := j) (ρ := wipeE (List.replicate ρ.length none) (own.map (·.2))) (by rw [wipeE_length, List.length_replicate]; exact hj) xs
  refine lc_data (Q := fun v H' => H' d = some (.frz o (.dK kvs)) ∧ Q v (upd H' d (.dK kvs))) (walkD_keys (K := X.K) upd_same x2) vw0 s0 hD (by rw [hown]; exact fun i h => h) (by rw [List.length_map, ← List.length_map (f := PyData.str), ← x1, List.length_map]; exact hz) hlc fun v G' H' n rv => ?_
  cases rv with
  | @lst D' ws _ hD' rw' =>
  have ew := RpAll.of_strs rw'
  subst ew
  have hdH' : H' d = some (.frz o (.dK kvs)) := n.h _ _ upd_same
  have hDd : D' ≠ d := fun z => by
    rw [z] at hD'
    have q := n.v _ _ hD'
    rw [hdH'] at q
    cases q
  have hnew : ∀ a u, a ≠ d → G' a = some u → H a = none := fun a u ha hu => by
    rcases n.new a u hu with z | z
    · rw [upd_ne ha] at z
      cases z
    · rwa [upd_ne ha] at z
  refine ⟨hdH', k (.ref D') (fun a => match G a with | some u => some u | none => if a = d then none else G' a) (upd H' d (.dK kvs)) ⟨fun b u q => ?_, fun b u q => ?_, fun b u q => ?_, fun b u q => ?_⟩ (.lst ?_ (by rw [x1]; exact RpAll.strs xs))⟩
  · by_cases hb : b = d
    · subst hb
      rw [hdH] at q
      rw [upd_same]
      exact q
    · rw [upd_ne hb]
      exact n.h _ _ (by rw [upd_ne hb]; exact q)
  · show (match G b with | some u => some u | none => if b = d then none else G' b) = some u
    rw [q]
  · have q' : (match G b with | some u => some u | none => if b = d then none else G' b) = some u := q
    cases hG : G b with
    | some w =>
      rw [hG] at q'
      cases q'
      by_cases hb : b = d
      · subst hb
        rw [hdG] at hG
        cases hG
        exact upd_same
      · rw [upd_ne hb]
        exact n.h _ _ (by rw [upd_ne hb]; exact vw _ _ hG)
    | none =>
      rw [hG] at q'
      dsimp only at q'
      by_cases hb : b = d
      · rw [if_pos hb] at q'
        cases q'
      · rw [if_neg hb] at q'
        rw [upd_ne hb]
        exact n.v _ _ q'
  · have q' : (match G b with | some u => some u | none => if b = d then none else G' b) = some u := q
    cases hG : G b with
    | some w =>
      rw [hG] at q'
      exact .inl q'
    | none =>
      rw [hG] at q'
      dsimp only at q'
      by_cases hb : b = d
      · rw [if_pos hb] at q'
        cases q'
      · rw [if_neg hb] at q'
        exact .inr (hnew b u hb q')
  · show (match G D' with | some u => some u | none => if D' = d then none else G' D') = _
    have hf : H D' = none := hnew D' _ hDd hD'
    rw [vw.free hf]
    dsimp only
    rw [if_neg hDd]
    exact hD'
end
/-! ### d != e -/
def intB : PyData → Bool
  | .int _ => true
  | _ => false
def eqE : Es → Es → Bool
  | [], _ => true
  | (.str x, .int i) :: r, fs => (match getE fs x with
    | some (.int j) => i == j && eqE r fs
    | _ => false)
  | _ :: _, _ => false
def neDictD : PyData → PyData → Option PyData
  | .dict es, .dict fs => if es.all (fun e => intB e.2) && fs.all (fun e => intB e.2) then some (.bool (!(decide (es.length = fs.length) && eqE es fs))) else none
  | _, _ => none
theorem getE_mem : ∀ {fs : Es} {x : Str} {d : PyData}, getE fs x = some d → ∃ e ∈ fs, e.2 = d
  | [], _, _, h => by cases h
  | (k, f) :: r, x, d, h => by
    cases k with
    | str y =>
      unfold getE at h
      by_cases c : y = x
      · rw [if_pos c] at h
        cases h
        exact ⟨_, List.mem_cons_self, rfl⟩
      · rw [if_neg c] at h
        obtain ⟨e, h1, h2⟩ := getE_mem h
        exact ⟨e, List.mem_cons_of_mem _ h1, h2⟩
    | _ =>
      obtain ⟨e, h1, h2⟩ := getE_mem (fs := r) (x := x) (d := d) (by simpa [getE] using h)
      exact ⟨e, List.mem_cons_of_mem _ h1, h2⟩
section
variable {X : Cx}
theorem hitsE {A : Around} {s : Shared} {K : PySem.W.Frag} {G : Hp} (hu : A.units < cLine) {ls : List (Key × V)} {vb : List (Key × Value)} {fs : Es} (rb : KV ls vb) (rf : RpKv K G ls fs) (hf : fs.all (fun e => intB e.2) = true) : ∀ {ks : List (Key × V)} {va : List (Key × Value)} {es : Es}, RpKv K G ks es → KV ks va → es.all (fun e => intB e.2) = true → ∃ b, PySem.W.KeqHits A s vb va b ∧ b = eqE es fs
  | _, _, _, .nil, .nil, _ => ⟨true, .nil, rfl⟩
  | _, _, _, .cons (x := x) (d := d) rv r, kv, ha => by
    rw [List.all_cons, Bool.and_eq_true] at ha
    unfold KV at kv
    cases kv with
    | @cons _ q _ qs h t =>
    obtain ⟨h1, h2⟩ := h
    obtain ⟨key, u⟩ := q
    cases (show Sum.inr x = key from h1)
    cases d with
    | int i =>
      cases rv
      obtain ⟨t1, e1⟩ := h2
      have e1 : u = .int i t1 := e1
      subst e1
      cases hg : getE fs x with
      | none =>
        have q := rf.get_none hg
        refine ⟨false, .miss (RelO.none_of (by rw [← q]; exact rb.val _)), ?_⟩
        unfold eqE
        rw [hg]
      | some f =>
        obtain ⟨w, w1, w2⟩ := rf.get hg
        obtain ⟨e, em, ef⟩ := getE_mem hg
        have hi := List.all_eq_true.mp hf e em
        rw [ef] at hi
        cases f with
        | int j =>
          cases w2
          have rr : RelO (some (.int j)) (valueAt vb (.inr x)) := by rw [← w1]; exact rb.val _
          obtain ⟨y, hy, ry⟩ := rr.some_of
          obtain ⟨t2, e2⟩ := ry
          have e2 : y = .int j t2 := e2
          subst e2
          obtain ⟨b, hb, eb⟩ := hitsE hu rb rf hf r t ha.2
          have eq : SeqAt.EqAt A s (.int i t1) (.int j t2) (PyData.eqv (.int i) (.int j)) := PySem.W.eqAt_alike (.int i) (.int j) A s _ _ _ _ (.int i t1) (.int j t2) rfl (by simpa [PyData.depth] using hu)
          refine ⟨_, .hit hy eq hb, ?_⟩
          unfold eqE
          rw [hg, eb]
          simp [PyData.eqv]
        | _ => exact absurd hi Bool.false_ne_true
    | _ => exact absurd ha.1 Bool.false_ne_true
theorem op_neDict (hu : X.A.units + 64 < cLine) : OpR X (compareOp .NotEq) (rD2 X.K neDictD) := by
  intro pins s σ H x y v u Q I rx ry h
  obtain ⟨G, dx, dy, d, vw, hx, hy, e, k⟩ := h
  unfold neDictD at e
  split at e
  · rename_i es fs
    split at e
    · rename_i hc
      rw [Bool.and_eq_true] at hc
      cases e
      cases hx with
      | @dic a ks _ ha ra =>
      cases hy with
      | @dic b ls _ hb rb =>
      obtain rfl : v = Value.ref a := rx
      obtain rfl : u = Value.ref b := ry
      obtain ⟨_, ya, va, ka, da⟩ := (show ObjOk X.prog X.w H s.heap a (.dK ks) from I.hok a _ (vw _ _ ha))
      obtain ⟨_, yb, vb, kb, db⟩ := (show ObjOk X.prog X.w H s.heap b (.dK ls) from I.hok b _ (vw _ _ hb))
      obtain ⟨r, hr, er⟩ := hitsE (A := X.A.in1) (s := s) (show X.A.units + 1 < cLine by omega) kb rb hc.2 ra ka hc.1
      refine PySem.W.keq_ne (knd := mixKind X.prog X.w) (r := r) ya yb da db (by omega) (fun _ => hr) ⟨.bl (!(decide (es.length = fs.length) && eqE es fs)), H, I, ?_, k _ G H (Nxt.refl vw) (.bl _)⟩
      have l1 : va.length = es.length := by rw [← ka.length, ra.length]
      have l2 : vb.length = fs.length := by rw [← kb.length, rb.length]
      show Value.bool _ = Value.bool _
      rw [er, l1, l2]
      congr 3
    · cases e
  · cases e
end
end Od
end
section
set_option maxHeartbeats 2000000
/-! OdMask: lists and dicts that a def still changes. -/
namespace Od
open PySem PySem.Spec PyProof.Rows L2
/-- from (G, H) to (G', H'), but for what stands at M, which is no part of the region -/
structure NxtM (M : List Addr) (G H G' H' : Hp) : Prop where
  h : ∀ b u, b ∉ M → H b = some u → H' b = some u
  g : Same G G'
  v : Same G' H'
  m : ∀ b ∈ M, G' b = none
  new : ∀ b o, G' b = some o → G b = some o ∨ H b = none
section
variable {M : List Addr} {G H G' H' G1 H1 G2 H2 : Hp} {K : PySem.W.Frag}
theorem NxtM.refl (v : Same G H) (m : ∀ b ∈ M, G b = none) : NxtM M G H G H := ⟨fun _ _ _ e => e, Same.refl G, v, m, fun _ _ e => .inl e⟩
theorem NxtM.trans (a : NxtM M G H G1 H1) (b : NxtM M G1 H1 G2 H2) : NxtM M G H G2 H2 :=
  ⟨fun x u hx e => b.h x u hx (a.h x u hx e), a.g.trans b.g, b.v, b.m, fun x o e => by
    rcases b.new x o e with q | q
    · exact a.new x o q
    · refine .inr ?_
      cases z : H x with
      | none => rfl
      | some u =>
        by_cases hx : x ∈ M
        · rw [b.m x hx] at e
          cases e
        · rw [a.h x u hx z] at q
          cases q⟩
/-- what grows leaves what is masked masked -/
theorem NxtM.step (a : NxtM M G H G1 H1) (n : Nxt G1 H1 G2 H2) (hm : ∀ b ∈ M, ∃ u, H1 b = some u) : NxtM M G H G2 H2 :=
  a.trans ⟨fun x u _ e => n.h x u e, n.g, n.v, fun b hb => let ⟨u, e⟩ := hm b hb; n.mask (a.m b hb) e, n.new⟩
/-- a masked object is written -/
theorem NxtM.write {b : Addr} {o : HO} (a : NxtM M G H G1 H1) (hb : b ∈ M ∨ H b = none) (hg : G1 b = none) : NxtM M G H G1 (upd H1 b o) :=
  ⟨fun x u hx e => by
    have q := a.h x u hx e
    have hxb : x ≠ b := fun z => by
      subst z
      rcases hb with hb | hb
      · exact hx hb
      · rw [hb] at e
        cases e
    rw [upd_ne hxb]
    exact q, a.g, same_mask a.v hg, a.m, a.new⟩
/-- a new object that stands in no region -/
theorem NxtM.lay {p : Addr} {o : HO} (a : NxtM M G H G1 H1) (hp : H1 p = none) : NxtM M G H G1 (upd H1 p o) :=
  ⟨fun x u hx e => by
    have q := a.h x u hx e
    rw [upd_ne (ne_of_none q hp)]
    exact q, a.g, a.v.trans (same_upd hp), a.m, a.new⟩
/-- it becomes part of the region -/
theorem NxtM.publish {p : Addr} {o : HO} (a : NxtM M G H G1 H1) (hp : H p = none) (hm : p ∉ M) (hg : G1 p = none) (hh : H1 p = some o) : NxtM M G H (upd G1 p o) H1 :=
  ⟨a.h, a.g.trans (same_upd hg), fun b u e => by
    by_cases hb : b = p
    · subst hb
      rw [upd_same] at e
      rw [hh]
      exact e
    · rw [upd_ne hb] at e
      exact a.v b u e, fun b hb => by
    rw [upd_ne (fun z => hm (by rw [← z]; exact hb))]
    exact a.m b hb, fun b u e => by
    by_cases hb : b = p
    · subst hb
      exact .inr hp
    · rw [upd_ne hb] at e
      exact a.new b u e⟩
/-- nothing is masked -/
theorem NxtM.nxt (a : NxtM [] G H G' H') : Nxt G H G' H' := ⟨fun b u e => a.h b u (by simp) e, a.g, a.v, a.new⟩
theorem Nxt.masked (n : Nxt G H G' H') (m : ∀ b ∈ M, G b = none) (hm : ∀ b ∈ M, ∃ u, H b = some u) : NxtM M G H G' H' := ⟨fun b u _ e => n.h b u e, n.g, n.v, fun b hb => let ⟨u, e⟩ := hm b hb; n.mask (m b hb) e, n.new⟩
/-- what was masked is fresh for the start: it is no longer told apart -/
theorem NxtM.forget {p : Addr} (a : NxtM (p :: M) G H G1 H1) (hp : H p = none) : NxtM M G H G1 H1 :=
  ⟨fun x u hx e => a.h x u (fun z => by
    rcases List.mem_cons.mp z with q | q
    · rw [q, hp] at e
      cases e
    · exact hx q) e, a.g, a.v, fun b hb => a.m b (List.mem_cons_of_mem _ hb), a.new⟩
/-- a datum without parts stands for itself in every region -/
theorem flat_any {v : V} {d : PyData} (f : flatD d = true) (h : Rp K G v d) : ∀ G', Rp K G' v d := fun G' => by
  cases h with
  | non => exact .non
  | bl b => exact .bl b
  | int i => exact .int i
  | str x => exact .str x
  | _ => exact absurd f Bool.false_ne_true
/-- reading with what is masked laid open: the answer has no parts -/
theorem liE_open {t : DE} {σ : L2.St} {ρ : DEnv} {d : PyData} {Q : VK} (vw : Same G H) (sl : Sl K G σ ρ) (e : t ρ = some d) (f : flatD d = true) (k : ∀ v H', Same H H' → (∀ G', Rp K G' v d) → Q v H') : liE K t σ H Q :=
  ⟨G, ρ, d, vw, sl, e, fun v G' H' n r => k v H' n.h (flat_any f r)⟩
theorem liT_open {t : DT} {σ : L2.St} {ρ : DEnv} {b : Bool} {Q : Bool → Hp → Prop} (vw : Same G H) (sl : Sl K G σ ρ) (e : t ρ = some b) (k : ∀ H', Same H H' → Q b H') : liT K t σ H Q :=
  ⟨G, ρ, b, vw, sl, e, fun G' H' n => k H' n.h⟩
theorem same_open {p : Addr} {o : HO} (vw : Same G H) (hp : H p = some o) : Same (upd G p o) H := fun b u e => by
  by_cases hb : b = p
  · subst hb
    rw [upd_same] at e
    rw [hp]
    exact e
  · rw [upd_ne hb] at e
    exact vw b u e
end
/-- a loop with a body told by hand -/
theorem for_hand {R : Hp → V → PyData → Prop} {J : It} {ds : List PyData} {g : TG} {tb : TS} {D : Ends} {σ : L2.St} {G0 H : Hp} (Pv : Nat → Hp → L2.St → Hp → Prop) (w : WalkD R J ds G0) (h0 : Pv 0 G0 σ H) (vw : ∀ i G σ H, Pv i G σ H → Same G0 G ∧ Same G H)
    (step : ∀ i d G σ H, ds[i]? = some d → Pv i G σ H → ∀ x G' H', Nxt G H G' H' → R G' x d → g x σ H' fun σ2 H2 => tb { D with nx := fun σ H => ∃ G, Pv (i + 1) G σ H, ct := fun σ H => ∃ G, Pv (i + 1) G σ H, bk := D.nx } σ2 H2)
    (fin : ∀ G σ H, Pv ds.length G σ H → D.nx σ H) :
    ∃ W : Nat → Nat → L2.St → Hp → Prop, (∃ m, W 0 m σ H) ∧ ∀ i m σ H, W i m σ H →
      (J.stop i H ∧ D.nx σ H) ∨ (J.go i H ∧ ∃ N : L2.St → Hp → Prop, (∀ σ' H', N σ' H' → ∃ m', m' < m ∧ W (i + 1) m' σ' H') ∧ ∀ x H', J.yld i H x H' → g x σ H' fun σ2 H2 => tb { D with nx := N, ct := N, bk := D.nx } σ2 H2) := by
  refine ⟨fun i m σ H => m = ds.length - i ∧ i ≤ ds.length ∧ ∃ G, Pv i G σ H, ⟨_, rfl, Nat.zero_le _, G0, h0⟩, ?_⟩
  rintro i m σ H ⟨rfl, hi, G, p⟩
  obtain ⟨v1, v2⟩ := vw i G σ H p
  by_cases hlt : i < ds.length
  · refine .inr ⟨w.goes i H hlt (v1.trans v2), fun σ H => ∃ G, Pv (i + 1) G σ H, fun σ' H' q => ⟨ds.length - (i + 1), by omega, rfl, hlt, q⟩, fun x H' y => ?_⟩
    have hd : ds[i]? = some ds[i] := List.getElem?_eq_getElem hlt
    obtain ⟨G', n, r⟩ := w.yields i H x H' ds[i] G hd v1 v2 y
    exact step i _ G σ H hd p x G' H' n r
  · have e : i = ds.length := by omega
    subst e
    exact .inl ⟨w.stops H (v1.trans v2), fin G σ H p⟩
/-! ### xs.append(e) -/
section
variable {X : Cx} {e : Expr} {te : TE} {x : Str} {i : Nat} {p apos cpos pos : Pos}
def tApp (i : Nat) (te : TE) : TS := fun D σ H => ∃ a, σ[i]? = some (some (.ref a)) ∧ (∃ xs, H a = some (.lst xs)) ∧ te σ H fun v H1 => rAppend (.ref a) [v] H1 fun _ H2 => D.nx σ H2
theorem app_in {a : Addr} {xs : List V} {v : V} {H : Hp} {Q : VK} (h : H a = some (.lst xs)) (hz : xs.length < sizeLine) (q : Q .non (upd H a (.lst (xs ++ [v])))) : rAppend (.ref a) [v] H Q := ⟨a, xs, v, rfl, rfl, h, hz, q⟩
theorem ps_append (hi : X.N[i]? = some x) (he : PE X e te) (hv : Vis X.env.scope x := by first | exact Or.inl rfl | exact Or.inr (Or.inl rfl) | exact Or.inr (Or.inr rfl)) (hd : (x == ("__debug__" : Str)) = false := by decide) (hcd : (x == ("__classdict__" : Str)) = false := by decide)
    (hbase : attributeBase (.Name x p) "append" X.env (eval (.Name x p) X.env) = eval (.Name x p) X.env := by rfl) (hs : starEach [e] X.env = (false, eval e X.env) :: starEach [] X.env := by rfl)
    (hline : (apos.endLine == cpos.line) = true := by rfl) (hsw : swapsWith (.Call (.Attribute (.Name x p) "append" apos) [e] [] cpos) none pos.line X.env = pure false := by rfl) :
    PS X (.Expr (.Call (.Attribute (.Name x p) "append" apos) [e] [] cpos) pos) (tApp i te) :=
  PS.imp (ps_expr (pe_bm PySem.F.plainAttrs_list PySem.F.slot_list_append PySem.F.type_list_append mt_append (pe_var hi hv hd hcd) (pa_cons he pa_nil hs) hbase (by rw [hs] <;> rfl) hline hs (by rfl)) hsw) fun D σ H ⟨a, h1, ⟨xs, h2⟩, q⟩ => by
    exact ⟨.ref a, h1, .inl ⟨rfl, xs, SqL.of h2⟩, q⟩
end
end Od
end
section
set_option maxHeartbeats 2000000
/-! OdWhile: while over data. -/
namespace Od
open PySem PySem.Spec PyProof.Rows L2
def whGo (c : DT) (tb : DS) : Nat → DEnv → Option Out
  | 0, _ => none
  | n + 1, ρ => match c ρ with
    | some true => match tb ρ with
      | some (.nx ρ') => whGo c tb n ρ'
      | some (.ct ρ') => whGo c tb n ρ'
      | some (.bk ρ') => some (.nx ρ')
      | some (.rt d) => some (.rt d)
      | none => none
    | some false => some (.nx ρ)
    | none => none
def dWhile (n : Nat) (c : DT) (tb : DS) : DS := whGo c tb n
section
variable {X : Cx} {F : List Nat} {pos : Pos} {c : Expr} {body : List Stmt} {tc : DT} {tb : DS} {n : Nat}
theorem pds_while (hp : PassesOwn (model X.prog X.w) X.A X.env X.xe) (hc : PT X c (liT X.K tc)) (hb : PSs X body (liS X.K F tb)) : PS X (.While c body [] pos) (liS X.K F (dWhile n tc tb)) :=
  PS.imp (ps_while hp hc hb) fun D σ H ⟨G, ρ, o, vw, s, e, k⟩ => by
    refine ⟨fun m σ H => ∃ G ρ o, Same G H ∧ Sl X.K G σ ρ ∧ whGo tc tb m ρ = some o ∧ OutK X.K F G H σ D o, ⟨n, G, ρ, o, vw, s, e, k⟩, ?_⟩
    rintro m σ H ⟨G, ρ, o, vw, s, e, k⟩
    cases m with
    | zero => cases e
    | succ m =>
    unfold whGo at e
    split at e
    · rename_i h1
      refine ⟨G, ρ, true, vw, s, h1, fun G1 H1 n1 => iteT ⟨fun σ' H' => ∃ G ρ o, Same G H' ∧ Sl X.K G σ' ρ ∧ whGo tc tb m ρ = some o ∧ OutK X.K F G H' σ' D o, fun σ' H' q => ⟨m, Nat.lt_succ_self _, q⟩, ?_⟩⟩
      have k1 := k.next n1 (Frm.refl F σ)
      split at e
      · rename_i ρ' h2
        exact ⟨G1, ρ, _, n1.v, s.mono n1.g, h2, fun σ2 G2 H2 n2 s2 f2 => ⟨G2, ρ', o, n2.v, s2, e, k1.next n2 f2⟩⟩
      · rename_i ρ' h2
        exact ⟨G1, ρ, _, n1.v, s.mono n1.g, h2, fun σ2 G2 H2 n2 s2 f2 => ⟨G2, ρ', o, n2.v, s2, e, k1.next n2 f2⟩⟩
      · rename_i ρ' h2
        cases e
        exact ⟨G1, ρ, _, n1.v, s.mono n1.g, h2, fun σ2 G2 H2 n2 s2 f2 => k1 σ2 G2 H2 n2 s2 f2⟩
      · rename_i d h2
        cases e
        exact ⟨G1, ρ, _, n1.v, s.mono n1.g, h2, fun v G2 H2 n2 r2 => k1 v G2 H2 n2 r2⟩
      · cases e
    · rename_i h1
      cases e
      exact ⟨G, ρ, false, vw, s, h1, fun G1 H1 n1 => iteF (k σ G1 H1 n1 (s.mono n1.g) (Frm.refl F σ))⟩
    · cases e
end
end Od
end
section
set_option maxHeartbeats 2000000
/-! OdSeqT: a, b = x, where x is a tuple or a list. -/
namespace Od
open PySem PySem.Spec PyProof.Rows L2
def tgQ (is : List Nat) : PyData → DEnv → Option DEnv := fun d ρ => match d with
  | .tuple ds => setAll is ds ρ
  | .list ds => setAll is ds ρ
  | _ => none
theorem PG.either {X : Cx} {tg : Expr} {t u : TG} (a : PG X tg t) (b : PG X tg u) : PG X tg (fun v σ H Q => t v σ H Q ∨ u v σ H Q) := ⟨fun pins s σ H v w Q I r h => h.elim (a.run pins s σ H v w Q I r) (b.run pins s σ H v w Q I r)⟩
section
variable {X : Cx} {pos : Pos}
theorem pdg_seq {is : List Nat} {es : List Expr} {k : Nat} (hc : X.calm = true) (h : PGs X es (liGs X.K is (setAll is))) (hn : (assignEach es X.env).length = is.length := by rfl) (hst : (assignEach es X.env).findIdx? (·.1) = none := by rfl) :
    PG X (.Tuple es k pos) (liG X.K (Rp X.K) is (tgQ is)) := PG.imp (PG.either (pg_tup hc h hn hst) (pg_lst hc h hn hst)) fun v σ H Q ⟨G, ρ, d, ρ', vw, s, r, e, q⟩ => by
  unfold tgQ at e
  split at e
  · cases r with
    | tup ha hr => exact .inl ⟨_, _, rfl, (ha.mono vw).sq, by rw [hr.length]; exact setAll_len e, G, ρ, _, ρ', vw, s, hr, e, q⟩
  · cases r with
    | lst ha hr => exact .inr ⟨_, _, rfl, SqL.of (vw _ _ ha), by rw [hr.length]; exact setAll_len e, G, ρ, _, ρ', vw, s, hr, e, q⟩
  · cases e
end
end Od
end
section
set_option maxHeartbeats 4000000
namespace Od
open PySem PySem.Spec PyProof.Rows L2
def topS (i : Nat) : Stmt := PySem.Challenge.pw_ownlists_k83_whole_nearest_lists_and_unl.main.body.getD i (.Pass ⟨0, 0, 0, 0⟩)
section
variable {P : Program} {w : World} {K : PySem.W.Frag} {mg : Str → Option Value} {base : Heap}
abbrev s_is_number : Stmt := topS 8
theorem sc_is_number : FnScope ["value"] ["value"] (defScope s_is_number) := ⟨rfl, rfl, rfl, by decide +kernel, rfl, by decide +kernel, by decide +kernel⟩
def t_is_number : DS :=
  (dRet (dAnd (d1 (isiD "int") (dVar 0)) (dNot (d1 (isiD "bool") (dVar 0)))))
def m_is_number : List PyData → Option PyData := runD 1 t_is_number
theorem ok_is_number (T : Bl mg) (F : DefAt K mg "is_number" s_is_number) : DefOk P w K mg base CX0 1 "is_number" ["value"] (spD K 1 m_is_number) :=
  F.okD (N := ["value"]) (ps := ["value"]) sc_is_number t_is_number (fun _ _ _ _ _ _ us hl => match us, hl with | [_], _ => rfl) (fun _ _ _ _ _ _ us hl => match us, hl with | [_], _ => rfl) fun f cdv A outer s H E hr =>
    (pds_one (pds_ret (pd_and (pd_isi rfl T.isinstance (pd 0) rfl T.int boot_int (by decide)) (pd_one (pd_not (pd_isi rfl T.isinstance (pd 0) rfl T.bool boot_bool (by decide)))))))
abbrev s_is_amount : Stmt := topS 9
theorem sc_is_amount : FnScope ["value"] ["value"] (defScope s_is_amount) := ⟨rfl, rfl, rfl, by decide +kernel, rfl, by decide +kernel, by decide +kernel⟩
def t_is_amount : DS :=
  (dRet (dAnd (dN m_is_number (dArgs [(dVar 0)])) (d2 geD (dVar 0) (dC (.int 0)))))
def m_is_amount : List PyData → Option PyData := runD 1 t_is_amount
theorem ok_is_amount (T : Bl mg) (F : DefAt K mg "is_amount" s_is_amount) (D_is_number : DefOk P w K mg base CX0 1 "is_number" ["value"] (spD K 1 m_is_number)) : DefOk P w K mg base CX0 2 "is_amount" ["value"] (spD K 1 m_is_amount) :=
  F.okD (N := ["value"]) (ps := ["value"]) sc_is_amount t_is_amount (fun _ _ _ _ _ _ us hl => match us, hl with | [_], _ => rfl) (fun _ _ _ _ _ _ us hl => match us, hl with | [_], _ => rfl) fun f cdv A outer s H E hr =>
    (pds_one (pds_ret (pd_and (pd_def D_is_number (hr.mono (by decide)) rfl pass0 (pda_cons (pd 0) pda_nil)) (pd_one (pd_cmp op_geD (pd 0) pd_int)))))
abbrev s_is_name : Stmt := topS 10
theorem sc_is_name : FnScope ["value", "letter"] ["value"] (defScope s_is_name) := ⟨rfl, rfl, rfl, by decide +kernel, rfl, by decide +kernel, by decide +kernel⟩
def t_is_name : DS :=
  (dSeq (dIfS (dOrT (dNotT (dB (d1 (isiD "str") (dVar 0)))) (dNotT (dB (dChain leD leD (dC (.int 1)) (dN lenD (dArgs [(dVar 0)])) (dC (.int 8)))))) (dRet (dC (.bool false))) dNext)
  (dRet (dN allD (dArgs [(dLc (dChars (dVar 0)) (tgN 1) dYes (d2 inD (dVar 1) (dC (.str (Str.ofString "abcdefghijklmnopqrstuvwxyz")))) [1])]))))
def m_is_name : List PyData → Option PyData := runD 2 t_is_name
theorem ok_is_name (T : Bl mg) (C : Cs mg) (F : DefAt K mg "is_name" s_is_name) : DefOk P w K mg base CX0 1 "is_name" ["value"] (spD K 1 m_is_name) :=
  F.okD (N := ["value", "letter"]) (ps := ["value"]) sc_is_name t_is_name (fun _ _ _ _ _ _ us hl => match us, hl with | [_], _ => rfl) (fun _ _ _ _ _ _ us hl => match us, hl with | [_], _ => rfl) fun f cdv A outer s H E hr =>
    (pds_cons (pds_if (PW.pt (pdw_or (pdt_not (pdt_val (pd_isi rfl T.isinstance (pd 0) rfl T.str boot_str (by decide)))) (pdw_or1 (pdt_not (pdt_chain op_leD op_leD pd_int (pd_callB call_lenDD rfl T.len boot_len (pda_cons (pd 0) pda_nil)) (pd_globI rfl C.longest)))))) (pds_one (pds_ret pd_bl)) pds_nil)
      (pds_one (pds_ret (pd_callB (call_allD rfl) rfl T.all boot_all (pda_cons (pd_lc (own := [("letter", 1)]) rfl sc_is_name.nd (pdi_chars (pd 0)) (blkOk_by (own := [("letter", 1)]) (N := ["value", "letter"]) (sc := (defScope s_is_name)) (by decide +kernel)) (by decide) (fun _ _ _ _ _ => (pdg_name (i := 1) sc_is_name.nd rfl (by first | exact Or.inl rfl | exact Or.inr rfl))) (fun _ _ _ _ _ => pdts_nil) (fun _ _ _ _ _ => (pd_cmp op_inD (pd 1) (pd_globS rfl C.letters)))) pda_nil)))))
abbrev s_is_pair : Stmt := topS 11
theorem sc_is_pair : FnScope ["value"] ["value"] (defScope s_is_pair) := ⟨rfl, rfl, rfl, by decide +kernel, rfl, by decide +kernel, by decide +kernel⟩
def t_is_pair : DS :=
  (dRet (dAnd (d1 (isiD "tuple") (dVar 0)) (d2 eqD (dN lenD (dArgs [(dVar 0)])) (dC (.int 2)))))
def m_is_pair : List PyData → Option PyData := runD 1 t_is_pair
theorem ok_is_pair (T : Bl mg) (C : Cs mg) (F : DefAt K mg "is_pair" s_is_pair) : DefOk P w K mg base CX0 1 "is_pair" ["value"] (spD K 1 m_is_pair) :=
  F.okD (N := ["value"]) (ps := ["value"]) sc_is_pair t_is_pair (fun _ _ _ _ _ _ us hl => match us, hl with | [_], _ => rfl) (fun _ _ _ _ _ _ us hl => match us, hl with | [_], _ => rfl) fun f cdv A outer s H E hr =>
    (pds_one (pds_ret (pd_and (pd_isi rfl T.isinstance (pd 0) rfl T.tuple boot_tuple (by decide)) (pd_one (pd_cmp (op_eqDD hr.units) (pd_callB call_lenDD rfl T.len boot_len (pda_cons (pd 0) pda_nil)) (pd_globI rfl C.pair))))))
abbrev s_set_of : Stmt := topS 12
theorem sc_set_of : FnScope ["some"] ["some"] (defScope s_set_of) := ⟨rfl, rfl, rfl, by decide +kernel, rfl, by decide +kernel, by decide +kernel⟩
def t_set_of : DS :=
  (dRet (dN tupD (dArgs [(d1 sortSetD (dVar 0))])))
def m_set_of : List PyData → Option PyData := runD 1 t_set_of
theorem ok_set_of (T : Bl mg) (F : DefAt K mg "set_of" s_set_of) : DefOk P w K mg base CX0 1 "set_of" ["some"] (spD K 1 m_set_of) :=
  F.okD (N := ["some"]) (ps := ["some"]) sc_set_of t_set_of (fun _ _ _ _ _ _ us hl => match us, hl with | [_], _ => rfl) (fun _ _ _ _ _ _ us hl => match us, hl with | [_], _ => rfl) fun f cdv A outer s H E hr =>
    (pds_one (pds_ret (pd_callTy call_tupD rfl T.tuple boot_tuple (pda_cons (pd_sortedSet rfl hr.units rfl T.sorted boot_sorted rfl T.set boot_set (pd 0)) pda_nil))))
abbrev s_tupled : Stmt := topS 13
theorem sc_tupled : FnScope ["value", "part"] ["value"] (defScope s_tupled) := ⟨rfl, rfl, rfl, by decide +kernel, rfl, by decide +kernel, by decide +kernel⟩
def t_tupled (m_tupled : List PyData → Option PyData) : DS :=
  (dRet (dIf (dB (d1 (isi2D "list" "tuple") (dVar 0))) (dN tupD (dArgs [(dLc (dItems (dVar 0)) (tgN 1) dYes (dN m_tupled (dArgs [(dVar 1)])) [1])])) (dVar 0)))
def f_tupled : Nat → List PyData → Option PyData
  | 0 => fun _ => none
  | n + 1 => runD 2 (t_tupled (f_tupled n))
def m_tupled : List PyData → Option PyData := f_tupled 7
theorem step_tupled (T : Bl mg) (F : DefAt K mg "tupled" s_tupled) {k : Nat} {m_tupled : List PyData → Option PyData} (lo : 1 ≤ k) (le : k ≤ k) (D_tupled : DefOk P w K mg base CX0 k "tupled" ["value"] (spD K 1 m_tupled)) : DefOk P w K mg base CX0 (k + 1) "tupled" ["value"] (spD K 1 (runD 2 (t_tupled m_tupled))) :=
  F.okD (N := ["value", "part"]) (ps := ["value"]) sc_tupled (t_tupled m_tupled) (fun _ _ _ _ _ _ us hl => match us, hl with | [_], _ => rfl) (fun _ _ _ _ _ _ us hl => match us, hl with | [_], _ => rfl) fun f cdv A outer s H E hr =>
    (pds_one (pds_ret (pd_if (pdt_val (pd_isi2 rfl T.isinstance (pd 0) rfl T.list boot_list rfl T.tuple boot_tuple (by decide) (by decide))) (pd_callTy call_tupD rfl T.tuple boot_tuple (pda_cons (pd_lc (own := [("part", 1)]) rfl sc_tupled.nd (pdi_seq (pd 0)) (blkOk_by (own := [("part", 1)]) (N := ["value", "part"]) (sc := (defScope s_tupled)) (by decide +kernel)) (by decide) (fun _ _ _ _ _ => (pdg_name (i := 1) sc_tupled.nd rfl (by first | exact Or.inl rfl | exact Or.inr rfl))) (fun _ _ _ _ _ => pdts_nil) (fun _ _ _ _ _ => (pd_def D_tupled (hr.mono le) rfl pass0 (pda_cons (pd 1) pda_nil)))) pda_nil)) (pd 0))))
theorem base_tupled (F : DefAt K mg "tupled" s_tupled) : DefOk P w K mg base CX0 1 "tupled" ["value"] (spD K 1 (f_tupled 0)) :=
  ((F.okD (N := ["value", "part"]) (ps := ["value"]) sc_tupled dNever (fun _ _ _ _ _ _ us hl => match us, hl with | [_], _ => rfl) (fun _ _ _ _ _ _ us hl => match us, hl with | [_], _ => rfl) (k := 0) fun f cdv A outer s H E hr => (pds_one pds_never)).as fun ds d e => by cases e)
theorem ok_tupled (T : Bl mg) (F : DefAt K mg "tupled" s_tupled) : DefOk P w K mg base CX0 8 "tupled" ["value"] (spD K 1 m_tupled) := by
  have h : ∀ n, DefOk P w K mg base CX0 (1 + n) "tupled" ["value"] (spD K 1 (f_tupled n)) := fun n => by
    induction n with
    | zero => exact base_tupled F
    | succ n ih => exact step_tupled T F (Nat.le_add_right _ _) (Nat.le_refl _) ih
  exact h 7
abbrev s_bills : Stmt := topS 15
theorem sc_bills : FnScope ["book"] ["book"] (defScope s_bills) := ⟨rfl, rfl, rfl, by decide +kernel, rfl, by decide +kernel, by decide +kernel⟩
def t_bills : DS :=
  (dRet (dN m_tupled (dArgs [(d2 ixD (dVar 0) (dC (.int 0)))])))
def m_bills : List PyData → Option PyData := runD 1 t_bills
theorem ok_bills (T : Bl mg) (F : DefAt K mg "bills" s_bills) (D_tupled : DefOk P w K mg base CX0 8 "tupled" ["value"] (spD K 1 m_tupled)) : DefOk P w K mg base CX0 9 "bills" ["book"] (spD K 1 m_bills) :=
  F.okD (N := ["book"]) (ps := ["book"]) sc_bills t_bills (fun _ _ _ _ _ _ us hl => match us, hl with | [_], _ => rfl) (fun _ _ _ _ _ _ us hl => match us, hl with | [_], _ => rfl) fun f cdv A outer s H E hr =>
    (pds_one (pds_ret (pd_def D_tupled (hr.mono (by decide)) rfl pass0 (pda_cons (pd_ix ix_D (pd 0) pd_int) pda_nil))))
abbrev s_payers : Stmt := topS 16
theorem sc_payers : FnScope ["book", "payer", "row"] ["book"] (defScope s_payers) := ⟨rfl, rfl, rfl, by decide +kernel, rfl, by decide +kernel, by decide +kernel⟩
def t_payers : DS :=
  (dRet (dN tupD (dArgs [(dLc (dItems (d2 ixD (dVar 0) (dC (.int 1)))) (tgQ [1, 2]) dYes (dVar 1) [1, 2])])))
def m_payers : List PyData → Option PyData := runD 3 t_payers
theorem ok_payers (T : Bl mg) (F : DefAt K mg "payers" s_payers) : DefOk P w K mg base CX0 1 "payers" ["book"] (spD K 1 m_payers) :=
  F.okD (N := ["book", "payer", "row"]) (ps := ["book"]) sc_payers t_payers (fun _ _ _ _ _ _ us hl => match us, hl with | [_], _ => rfl) (fun _ _ _ _ _ _ us hl => match us, hl with | [_], _ => rfl) fun f cdv A outer s H E hr =>
    (pds_one (pds_ret (pd_callTy call_tupD rfl T.tuple boot_tuple (pda_cons (pd_lc (own := [("payer", 1), ("row", 2)]) rfl sc_payers.nd (pdi_seq (pd_ix ix_D (pd 0) pd_int)) (blkOk_by (own := [("payer", 1), ("row", 2)]) (N := ["book", "payer", "row"]) (sc := (defScope s_payers)) (by decide +kernel)) (by decide) (fun _ _ _ _ _ => (pdg_seq rfl (pdgs_cons (pdg_name (i := 1) sc_payers.nd rfl (by first | exact Or.inl rfl | exact Or.inr rfl)) (pdgs_cons (pdg_name (i := 2) sc_payers.nd rfl (by first | exact Or.inl rfl | exact Or.inr rfl)) pdgs_nil)))) (fun _ _ _ _ _ => pdts_nil) (fun _ _ _ _ _ => (pd 1))) pda_nil))))
abbrev s_lists_table : Stmt := topS 17
theorem sc_lists_table : FnScope ["book"] ["book"] (defScope s_lists_table) := ⟨rfl, rfl, rfl, by decide +kernel, rfl, by decide +kernel, by decide +kernel⟩
def t_lists_table : DS :=
  (dRet (dN dictD (dArgs [(dN m_tupled (dArgs [(d2 ixD (dVar 0) (dC (.int 1)))]))])))
def m_lists_table : List PyData → Option PyData := runD 1 t_lists_table
theorem ok_lists_table (T : Bl mg) (F : DefAt K mg "lists_table" s_lists_table) (D_tupled : DefOk P w K mg base CX0 8 "tupled" ["value"] (spD K 1 m_tupled)) : DefOk P w K mg base CX0 9 "lists_table" ["book"] (spD K 1 m_lists_table) :=
  F.okD (N := ["book"]) (ps := ["book"]) sc_lists_table t_lists_table (fun _ _ _ _ _ _ us hl => match us, hl with | [_], _ => rfl) (fun _ _ _ _ _ _ us hl => match us, hl with | [_], _ => rfl) fun f cdv A outer s H E hr =>
    (pds_one (pds_ret (pd_callTy (call_dictD rfl) rfl T.dict boot_dict (pda_cons (pd_def D_tupled (hr.mono (by decide)) rfl pass0 (pda_cons (pd_ix ix_D (pd 0) pd_int) pda_nil)) pda_nil))))
abbrev s_check_payer : Stmt := topS 18
theorem sc_check_payer : FnScope ["book", "payer"] ["book", "payer"] (defScope s_check_payer) := ⟨rfl, rfl, rfl, by decide +kernel, rfl, by decide +kernel, by decide +kernel⟩
def t_check_payer : DS :=
  (dIfS (dB (d2 notInD (dVar 1) (dN m_payers (dArgs [(dVar 0)])))) dNever dNext)
def m_check_payer : List PyData → Option PyData := runD 2 t_check_payer
theorem ok_check_payer (T : Bl mg) (F : DefAt K mg "check_payer" s_check_payer) (D_payers : DefOk P w K mg base CX0 1 "payers" ["book"] (spD K 1 m_payers)) : DefOk P w K mg base CX0 2 "check_payer" ["book", "payer"] (spD K 2 m_check_payer) :=
  F.okD (N := ["book", "payer"]) (ps := ["book", "payer"]) sc_check_payer t_check_payer (fun _ _ _ _ _ _ us hl => match us, hl with | [_, _], _ => rfl) (fun _ _ _ _ _ _ us hl => match us, hl with | [_, _], _ => rfl) fun f cdv A outer s H E hr =>
    (pds_one (pds_if (pdt_cmp op_notInD (pd 1) (pd_def D_payers (hr.mono (by decide)) rfl pass0 (pda_cons (pd 0) pda_nil))) (pds_one pds_never) pds_nil))
abbrev s_check_bills : Stmt := topS 19
theorem sc_check_bills : FnScope ["book", "some", "known", "name"] ["book", "some"] (defScope s_check_bills) := ⟨rfl, rfl, rfl, by decide +kernel, rfl, by decide +kernel, by decide +kernel⟩
def t_check_bills : DS :=
  (dSeq (dAsg 2 (dN m_bills (dArgs [(dVar 0)])))
  (dFor (dItems (dVar 1)) (tgN 3) (dIfS (dB (d2 notInD (dVar 3) (dVar 2))) dNever dNext)))
def m_check_bills : List PyData → Option PyData := runD 4 t_check_bills
theorem ok_check_bills (T : Bl mg) (F : DefAt K mg "check_bills" s_check_bills) (D_bills : DefOk P w K mg base CX0 9 "bills" ["book"] (spD K 1 m_bills)) : DefOk P w K mg base CX0 10 "check_bills" ["book", "some"] (spD K 2 m_check_bills) :=
  F.okD (N := ["book", "some", "known", "name"]) (ps := ["book", "some"]) sc_check_bills t_check_bills (fun _ _ _ _ _ _ us hl => match us, hl with | [_, _], _ => rfl) (fun _ _ _ _ _ _ us hl => match us, hl with | [_, _], _ => rfl) fun f cdv A outer s H E hr =>
    (pds_cons (pds_set (i := 2) sc_check_bills.nd rfl (by first | exact Or.inl rfl | exact Or.inr rfl) (pd_def D_bills (hr.mono (by decide)) rfl pass0 (pda_cons (pd 0) pda_nil)))
      (pds_one (pds_for PassesOwn.never rfl (pdi_seq (pd 1)) (pdg_name (i := 3) sc_check_bills.nd rfl (by first | exact Or.inl rfl | exact Or.inr rfl)) (pds_one (pds_if (pdt_cmp op_notInD (pd 3) (pd 2)) (pds_one pds_never) pds_nil)))))
abbrev s_list_of : Stmt := topS 20
theorem sc_list_of : FnScope ["book", "payer"] ["book", "payer"] (defScope s_list_of) := ⟨rfl, rfl, rfl, by decide +kernel, rfl, by decide +kernel, by decide +kernel⟩
def t_list_of : DS :=
  (dSeq (dDrop (dN m_check_payer (dArgs [(dVar 0), (dVar 1)])))
  (dRet (d2 dgetD (dN m_lists_table (dArgs [(dVar 0)])) (dVar 1))))
def m_list_of : List PyData → Option PyData := runD 2 t_list_of
theorem ok_list_of (T : Bl mg) (F : DefAt K mg "list_of" s_list_of) (D_lists_table : DefOk P w K mg base CX0 9 "lists_table" ["book"] (spD K 1 m_lists_table)) (D_check_payer : DefOk P w K mg base CX0 2 "check_payer" ["book", "payer"] (spD K 2 m_check_payer)) : DefOk P w K mg base CX0 10 "list_of" ["book", "payer"] (spD K 2 m_list_of) :=
  F.okD (N := ["book", "payer"]) (ps := ["book", "payer"]) sc_list_of t_list_of (fun _ _ _ _ _ _ us hl => match us, hl with | [_, _], _ => rfl) (fun _ _ _ _ _ _ us hl => match us, hl with | [_, _], _ => rfl) fun f cdv A outer s H E hr =>
    (pds_cons (pds_expr (pd_def D_check_payer (hr.mono (by decide)) rfl pass0 (pda_cons (pd 0) (pda_cons (pd 1) pda_nil))))
      (pds_one (pds_ret (pd_dget (hu_of hr) (pd_def D_lists_table (hr.mono (by decide)) rfl pass0 (pda_cons (pd 0) pda_nil)) (pd 1)))))
abbrev s_with_table : Stmt := topS 21
theorem sc_with_table : FnScope ["known", "table"] ["known", "table"] (defScope s_with_table) := ⟨rfl, rfl, rfl, by decide +kernel, rfl, by decide +kernel, by decide +kernel⟩
def t_with_table : DS :=
  (dRet (dTup [(dN m_set_of (dArgs [(dVar 0)])), (dN tupD (dArgs [(d1 sortItemsD (dVar 1))]))]))
def m_with_table : List PyData → Option PyData := runD 2 t_with_table
theorem ok_with_table (T : Bl mg) (F : DefAt K mg "with_table" s_with_table) (D_set_of : DefOk P w K mg base CX0 1 "set_of" ["some"] (spD K 1 m_set_of)) : DefOk P w K mg base CX0 2 "with_table" ["known", "table"] (spD K 2 m_with_table) :=
  F.okD (N := ["known", "table"]) (ps := ["known", "table"]) sc_with_table t_with_table (fun _ _ _ _ _ _ us hl => match us, hl with | [_, _], _ => rfl) (fun _ _ _ _ _ _ us hl => match us, hl with | [_, _], _ => rfl) fun f cdv A outer s H E hr =>
    (pds_one (pds_ret (pd_tup (pda_cons (pd_def D_set_of (hr.mono (by decide)) rfl pass0 (pda_cons (pd 0) pda_nil)) (pda_cons (pd_callTy call_tupD rfl T.tuple boot_tuple (pda_cons (pd_sortedItems rfl hr.units rfl T.sorted boot_sorted (pd 1)) pda_nil)) pda_nil)))))
abbrev s_with_list : Stmt := topS 22
theorem sc_with_list : FnScope ["book", "payer", "row"] ["book", "payer", "row"] (defScope s_with_list) := ⟨rfl, rfl, rfl, by decide +kernel, rfl, by decide +kernel, by decide +kernel⟩
def t_with_list : DS :=
  (dSeq (dDrop (dN m_check_payer (dArgs [(dVar 0), (dVar 1)])))
  (dSeq (dDrop (dN m_check_bills (dArgs [(dVar 0), (dVar 2)])))
  (dRet (dN m_with_table (dArgs [(dN m_bills (dArgs [(dVar 0)])), (d3 withD (dN m_lists_table (dArgs [(dVar 0)])) (dVar 1) (dN m_tupled (dArgs [(dVar 2)])))])))))
def m_with_list : List PyData → Option PyData := runD 3 t_with_list
theorem ok_with_list (T : Bl mg) (F : DefAt K mg "with_list" s_with_list) (D_with_table : DefOk P w K mg base CX0 2 "with_table" ["known", "table"] (spD K 2 m_with_table)) (D_bills : DefOk P w K mg base CX0 9 "bills" ["book"] (spD K 1 m_bills)) (D_lists_table : DefOk P w K mg base CX0 9 "lists_table" ["book"] (spD K 1 m_lists_table)) (D_tupled : DefOk P w K mg base CX0 8 "tupled" ["value"] (spD K 1 m_tupled)) (D_check_bills : DefOk P w K mg base CX0 10 "check_bills" ["book", "some"] (spD K 2 m_check_bills)) (D_check_payer : DefOk P w K mg base CX0 2 "check_payer" ["book", "payer"] (spD K 2 m_check_payer)) : DefOk P w K mg base CX0 11 "with_list" ["book", "payer", "row"] (spD K 3 m_with_list) :=
  F.okD (N := ["book", "payer", "row"]) (ps := ["book", "payer", "row"]) sc_with_list t_with_list (fun _ _ _ _ _ _ us hl => match us, hl with | [_, _, _], _ => rfl) (fun _ _ _ _ _ _ us hl => match us, hl with | [_, _, _], _ => rfl) fun f cdv A outer s H E hr =>
    (pds_cons (pds_expr (pd_def D_check_payer (hr.mono (by decide)) rfl pass0 (pda_cons (pd 0) (pda_cons (pd 1) pda_nil))))
      (pds_cons (pds_expr (pd_def D_check_bills (hr.mono (by decide)) rfl pass0 (pda_cons (pd 0) (pda_cons (pd 2) pda_nil))))
      (pds_one (pds_ret (pd_def D_with_table (hr.mono (by decide)) rfl pass0 (pda_cons (pd_def D_bills (hr.mono (by decide)) rfl pass0 (pda_cons (pd 0) pda_nil)) (pda_cons (pd_with (pd_def D_lists_table (hr.mono (by decide)) rfl pass0 (pda_cons (pd 0) pda_nil)) (pd 1) (pd_def D_tupled (hr.mono (by decide)) rfl pass0 (pda_cons (pd 2) pda_nil))) pda_nil)))))))
abbrev s_are_amounts : Stmt := topS 24
theorem sc_are_amounts : FnScope ["thing", "name", "amount", "row"] ["thing"] (defScope s_are_amounts) := ⟨rfl, rfl, rfl, by decide +kernel, rfl, by decide +kernel, by decide +kernel⟩
def t_are_amounts : DS :=
  (dSeq (dIfS (dOrT (dNotT (dB (d1 (isiD "tuple") (dVar 0)))) (dNotT (dB (dN allD (dArgs [(dLc (dItems (dVar 0)) (tgN 3) dYes (dN m_is_pair (dArgs [(dVar 3)])) [3])]))))) (dRet (dC (.bool false))) dNext)
  (dRet (dN allD (dArgs [(dLc (dItems (dVar 0)) (tgT [1, 2]) dYes (dAnd (dN m_is_name (dArgs [(dVar 1)])) (dN m_is_amount (dArgs [(dVar 2)]))) [1, 2])]))))
def m_are_amounts : List PyData → Option PyData := runD 4 t_are_amounts
theorem ok_are_amounts (T : Bl mg) (F : DefAt K mg "are_amounts" s_are_amounts) (D_is_name : DefOk P w K mg base CX0 1 "is_name" ["value"] (spD K 1 m_is_name)) (D_is_amount : DefOk P w K mg base CX0 2 "is_amount" ["value"] (spD K 1 m_is_amount)) (D_is_pair : DefOk P w K mg base CX0 1 "is_pair" ["value"] (spD K 1 m_is_pair)) : DefOk P w K mg base CX0 3 "are_amounts" ["thing"] (spD K 1 m_are_amounts) :=
  F.okD (N := ["thing", "name", "amount", "row"]) (ps := ["thing"]) sc_are_amounts t_are_amounts (fun _ _ _ _ _ _ us hl => match us, hl with | [_], _ => rfl) (fun _ _ _ _ _ _ us hl => match us, hl with | [_], _ => rfl) fun f cdv A outer s H E hr =>
    (pds_cons (pds_if (PW.pt (pdw_or (pdt_not (pdt_val (pd_isi rfl T.isinstance (pd 0) rfl T.tuple boot_tuple (by decide)))) (pdw_or1 (pdt_not (pdt_val (pd_callB (call_allD rfl) rfl T.all boot_all (pda_cons (pd_lc (own := [("row", 3)]) rfl sc_are_amounts.nd (pdi_seq (pd 0)) (blkOk_by (own := [("row", 3)]) (N := ["thing", "name", "amount", "row"]) (sc := (defScope s_are_amounts)) (by decide +kernel)) (by decide) (fun _ _ _ _ _ => (pdg_name (i := 3) sc_are_amounts.nd rfl (by first | exact Or.inl rfl | exact Or.inr rfl))) (fun _ _ _ _ _ => pdts_nil) (fun _ _ _ _ _ => (pd_def D_is_pair (hr.mono (by decide)) rfl pass0 (pda_cons (pd 3) pda_nil)))) pda_nil))))))) (pds_one (pds_ret pd_bl)) pds_nil)
      (pds_one (pds_ret (pd_callB (call_allD rfl) rfl T.all boot_all (pda_cons (pd_lc (own := [("name", 1), ("amount", 2)]) rfl sc_are_amounts.nd (pdi_seq (pd 0)) (blkOk_by (own := [("name", 1), ("amount", 2)]) (N := ["thing", "name", "amount", "row"]) (sc := (defScope s_are_amounts)) (by decide +kernel)) (by decide) (fun _ _ _ _ _ => (pdg_tup rfl (pdgs_cons (pdg_name (i := 1) sc_are_amounts.nd rfl (by first | exact Or.inl rfl | exact Or.inr rfl)) (pdgs_cons (pdg_name (i := 2) sc_are_amounts.nd rfl (by first | exact Or.inl rfl | exact Or.inr rfl)) pdgs_nil)))) (fun _ _ _ _ _ => pdts_nil) (fun _ _ _ _ _ => (pd_and (pd_def D_is_name (hr.mono (by decide)) rfl pass0 (pda_cons (pd 1) pda_nil)) (pd_one (pd_def D_is_amount (hr.mono (by decide)) rfl pass0 (pda_cons (pd 2) pda_nil)))))) pda_nil)))))
abbrev s_is_dues : Stmt := topS 25
theorem sc_is_dues : FnScope ["book", "thing", "bill", "number"] ["book", "thing"] (defScope s_is_dues) := ⟨rfl, rfl, rfl, by decide +kernel, rfl, by decide +kernel, by decide +kernel⟩
def t_is_dues : DS :=
  (dSeq (dIfS (dNotT (dB (dN m_are_amounts (dArgs [(dVar 1)])))) (dRet (dC (.bool false))) dNext)
  (dRet (d2 eqD (dN tupD (dArgs [(dLc (dItems (dVar 1)) (tgT [2, 3]) dYes (dVar 2) [2, 3])])) (dN m_bills (dArgs [(dVar 0)])))))
def m_is_dues : List PyData → Option PyData := runD 4 t_is_dues
theorem ok_is_dues (T : Bl mg) (F : DefAt K mg "is_dues" s_is_dues) (D_bills : DefOk P w K mg base CX0 9 "bills" ["book"] (spD K 1 m_bills)) (D_are_amounts : DefOk P w K mg base CX0 3 "are_amounts" ["thing"] (spD K 1 m_are_amounts)) : DefOk P w K mg base CX0 10 "is_dues" ["book", "thing"] (spD K 2 m_is_dues) :=
  F.okD (N := ["book", "thing", "bill", "number"]) (ps := ["book", "thing"]) sc_is_dues t_is_dues (fun _ _ _ _ _ _ us hl => match us, hl with | [_, _], _ => rfl) (fun _ _ _ _ _ _ us hl => match us, hl with | [_, _], _ => rfl) fun f cdv A outer s H E hr =>
    (pds_cons (pds_if (pdt_not (pdt_val (pd_def D_are_amounts (hr.mono (by decide)) rfl pass0 (pda_cons (pd 1) pda_nil)))) (pds_one (pds_ret pd_bl)) pds_nil)
      (pds_one (pds_ret (pd_cmp (op_eqDD hr.units) (pd_callTy call_tupD rfl T.tuple boot_tuple (pda_cons (pd_lc (own := [("bill", 2), ("number", 3)]) rfl sc_is_dues.nd (pdi_seq (pd 1)) (blkOk_by (own := [("bill", 2), ("number", 3)]) (N := ["book", "thing", "bill", "number"]) (sc := (defScope s_is_dues)) (by decide +kernel)) (by decide) (fun _ _ _ _ _ => (pdg_tup rfl (pdgs_cons (pdg_name (i := 2) sc_is_dues.nd rfl (by first | exact Or.inl rfl | exact Or.inr rfl)) (pdgs_cons (pdg_name (i := 3) sc_is_dues.nd rfl (by first | exact Or.inl rfl | exact Or.inr rfl)) pdgs_nil)))) (fun _ _ _ _ _ => pdts_nil) (fun _ _ _ _ _ => (pd 2))) pda_nil)) (pd_def D_bills (hr.mono (by decide)) rfl pass0 (pda_cons (pd 0) pda_nil))))))
abbrev s_sum_of : Stmt := topS 27
theorem sc_sum_of : FnScope ["pairs", "name", "much"] ["pairs"] (defScope s_sum_of) := ⟨rfl, rfl, rfl, by decide +kernel, rfl, by decide +kernel, by decide +kernel⟩
def t_sum_of : DS :=
  (dRet (dN sumD (dArgs [(dLc (dItems (dVar 0)) (tgT [1, 2]) dYes (dVar 2) [1, 2])])))
def m_sum_of : List PyData → Option PyData := runD 3 t_sum_of
theorem ok_sum_of (T : Bl mg) (F : DefAt K mg "sum_of" s_sum_of) : DefOk P w K mg base CX0 1 "sum_of" ["pairs"] (spD K 1 m_sum_of) :=
  F.okD (N := ["pairs", "name", "much"]) (ps := ["pairs"]) sc_sum_of t_sum_of (fun _ _ _ _ _ _ us hl => match us, hl with | [_], _ => rfl) (fun _ _ _ _ _ _ us hl => match us, hl with | [_], _ => rfl) fun f cdv A outer s H E hr =>
    (pds_one (pds_ret (pd_callB (call_sumD rfl) rfl T.sum boot_sum (pda_cons (pd_lc (own := [("name", 1), ("much", 2)]) rfl sc_sum_of.nd (pdi_seq (pd 0)) (blkOk_by (own := [("name", 1), ("much", 2)]) (N := ["pairs", "name", "much"]) (sc := (defScope s_sum_of)) (by decide +kernel)) (by decide) (fun _ _ _ _ _ => (pdg_tup rfl (pdgs_cons (pdg_name (i := 1) sc_sum_of.nd rfl (by first | exact Or.inl rfl | exact Or.inr rfl)) (pdgs_cons (pdg_name (i := 2) sc_sum_of.nd rfl (by first | exact Or.inl rfl | exact Or.inr rfl)) pdgs_nil)))) (fun _ _ _ _ _ => pdts_nil) (fun _ _ _ _ _ => (pd 2))) pda_nil))))
abbrev s_rest_of : Stmt := topS 30
theorem sc_rest_of : FnScope ["one", "other", "bill", "hidden", "mate"] ["one", "other", "bill"] (defScope s_rest_of) := ⟨rfl, rfl, rfl, by decide +kernel, rfl, by decide +kernel, by decide +kernel⟩
def t_rest_of : DS :=
  (dSeq (dAsg 3 (dSl (dVar 1) dNo (dPart (d2 indexD (dVar 1) (dVar 2)))))
  (dRet (dN tupD (dArgs [(dLc (dItems (dSl (dVar 0) (dPart (d2 addD (d2 indexD (dVar 0) (dVar 2)) (dC (.int 1)))) dNo)) (tgN 4) (dB (d2 notInD (dVar 4) (dVar 3))) (dVar 4) [4])]))))
def m_rest_of : List PyData → Option PyData := runD 5 t_rest_of
theorem ok_rest_of (T : Bl mg) (F : DefAt K mg "rest_of" s_rest_of) : DefOk P w K mg base CX0 1 "rest_of" ["one", "other", "bill"] (spD K 3 m_rest_of) :=
  F.okD (N := ["one", "other", "bill", "hidden", "mate"]) (ps := ["one", "other", "bill"]) sc_rest_of t_rest_of (fun _ _ _ _ _ _ us hl => match us, hl with | [_, _, _], _ => rfl) (fun _ _ _ _ _ _ us hl => match us, hl with | [_, _, _], _ => rfl) fun f cdv A outer s H E hr =>
    (pds_cons (pds_set (i := 3) sc_rest_of.nd rfl (by first | exact Or.inl rfl | exact Or.inr rfl) (pd_slice (pd 1) pdo_none (pdo_some (pd_index (pd 1) (pd 2)))))
      (pds_one (pds_ret (pd_callTy call_tupD rfl T.tuple boot_tuple (pda_cons (pd_lc (own := [("mate", 4)]) rfl sc_rest_of.nd (pdi_seq (pd_slice (pd 0) (pdo_some (pd_op op_addD (pd_index (pd 0) (pd 2)) pd_int)) pdo_none)) (blkOk_by (own := [("mate", 4)]) (N := ["one", "other", "bill", "hidden", "mate"]) (sc := (defScope s_rest_of)) (by decide +kernel)) (by decide) (fun _ _ _ _ _ => (pdg_name (i := 4) sc_rest_of.nd rfl (by first | exact Or.inl rfl | exact Or.inr rfl))) (fun _ _ _ _ _ => (pdts_one (pdt_cmp op_notInD (pd 4) (pd 3)))) (fun _ _ _ _ _ => (pd 4))) pda_nil)))))
abbrev s_odd_bills : Stmt := topS 31
theorem sc_odd_bills : FnScope ["one", "other", "shared", "mine", "its", "bill"] ["one", "other"] (defScope s_odd_bills) := ⟨rfl, rfl, rfl, by decide +kernel, rfl, by decide +kernel, by decide +kernel⟩
def t_odd_bills : DS :=
  (dSeq (dAsgG (tgT [3, 4]) (dTup [(dN m_tupled (dArgs [(dVar 0)])), (dN m_tupled (dArgs [(dVar 1)]))]))
  (dSeq (dAsg 2 (dLc (dItems (dVar 3)) (tgN 5) (dB (d2 inD (dVar 5) (dVar 4))) (dVar 5) [5]))
  (dRet (dN tupD (dArgs [(dN sortD (dArgs [(dLc (dItems (dVar 2)) (tgN 5) (dB (d2 neD (dN m_rest_of (dArgs [(dVar 3), (dVar 4), (dVar 5)])) (dN m_rest_of (dArgs [(dVar 4), (dVar 3), (dVar 5)])))) (dVar 5) [5])]))])))))
def m_odd_bills : List PyData → Option PyData := runD 6 t_odd_bills
theorem ok_odd_bills (T : Bl mg) (F : DefAt K mg "odd_bills" s_odd_bills) (D_rest_of : DefOk P w K mg base CX0 1 "rest_of" ["one", "other", "bill"] (spD K 3 m_rest_of)) (D_tupled : DefOk P w K mg base CX0 8 "tupled" ["value"] (spD K 1 m_tupled)) : DefOk P w K mg base CX0 9 "odd_bills" ["one", "other"] (spD K 2 m_odd_bills) :=
  F.okD (N := ["one", "other", "shared", "mine", "its", "bill"]) (ps := ["one", "other"]) sc_odd_bills t_odd_bills (fun _ _ _ _ _ _ us hl => match us, hl with | [_, _], _ => rfl) (fun _ _ _ _ _ _ us hl => match us, hl with | [_, _], _ => rfl) fun f cdv A outer s H E hr =>
    (pds_cons (pds_asgG (pd_tup (pda_cons (pd_def D_tupled (hr.mono (by decide)) rfl pass0 (pda_cons (pd 0) pda_nil)) (pda_cons (pd_def D_tupled (hr.mono (by decide)) rfl pass0 (pda_cons (pd 1) pda_nil)) pda_nil))) (pdg_tup rfl (pdgs_cons (pdg_name (i := 3) sc_odd_bills.nd rfl (by first | exact Or.inl rfl | exact Or.inr rfl)) (pdgs_cons (pdg_name (i := 4) sc_odd_bills.nd rfl (by first | exact Or.inl rfl | exact Or.inr rfl)) pdgs_nil))))
      (pds_cons (pds_setLc (i := 2) (own := [("bill", 5)]) rfl sc_odd_bills.nd rfl rfl (sw_true rfl rfl rfl (by decide +kernel)) (pdi_seq (pd 3)) (blkOk_by (own := [("bill", 5)]) (N := ["one", "other", "shared", "mine", "its", "bill"]) (sc := (defScope s_odd_bills)) (by decide +kernel)) (by decide) (fun _ _ _ _ _ => (pdg_name (i := 5) sc_odd_bills.nd rfl (by first | exact Or.inl rfl | exact Or.inr rfl))) (fun _ _ _ _ _ => (pdts_one (pdt_cmp op_inD (pd 5) (pd 4)))) (fun _ _ _ _ _ => (pd 5)))
      (pds_one (pds_ret (pd_callTy call_tupD rfl T.tuple boot_tuple (pda_cons (pd_callB (call_sortD hr.units) rfl T.sorted boot_sorted (pda_cons (pd_lc (own := [("bill", 5)]) rfl sc_odd_bills.nd (pdi_seq (pd 2)) (blkOk_by (own := [("bill", 5)]) (N := ["one", "other", "shared", "mine", "its", "bill"]) (sc := (defScope s_odd_bills)) (by decide +kernel)) (by decide) (fun _ _ _ _ _ => (pdg_name (i := 5) sc_odd_bills.nd rfl (by first | exact Or.inl rfl | exact Or.inr rfl))) (fun _ _ _ _ _ => (pdts_one (pdt_cmp (op_neDD hr.units) (pd_def D_rest_of (hr.mono (by decide)) rfl pass0 (pda_cons (pd 3) (pda_cons (pd 4) (pda_cons (pd 5) pda_nil)))) (pd_def D_rest_of (hr.mono (by decide)) rfl pass0 (pda_cons (pd 4) (pda_cons (pd 3) (pda_cons (pd 5) pda_nil))))))) (fun _ _ _ _ _ => (pd 5))) pda_nil)) pda_nil))))))
abbrev s_agree : Stmt := topS 32
theorem sc_agree : FnScope ["one", "other"] ["one", "other"] (defScope s_agree) := ⟨rfl, rfl, rfl, by decide +kernel, rfl, by decide +kernel, by decide +kernel⟩
def t_agree : DS :=
  (dRet (d2 eqD (dN lenD (dArgs [(dN m_odd_bills (dArgs [(dVar 0), (dVar 1)]))])) (dC (.int 0))))
def m_agree : List PyData → Option PyData := runD 2 t_agree
theorem ok_agree (T : Bl mg) (F : DefAt K mg "agree" s_agree) (D_odd_bills : DefOk P w K mg base CX0 9 "odd_bills" ["one", "other"] (spD K 2 m_odd_bills)) : DefOk P w K mg base CX0 10 "agree" ["one", "other"] (spD K 2 m_agree) :=
  F.okD (N := ["one", "other"]) (ps := ["one", "other"]) sc_agree t_agree (fun _ _ _ _ _ _ us hl => match us, hl with | [_, _], _ => rfl) (fun _ _ _ _ _ _ us hl => match us, hl with | [_, _], _ => rfl) fun f cdv A outer s H E hr =>
    (pds_one (pds_ret (pd_cmp (op_eqDD hr.units) (pd_callB call_lenDD rfl T.len boot_len (pda_cons (pd_def D_odd_bills (hr.mono (by decide)) rfl pass0 (pda_cons (pd 0) (pda_cons (pd 1) pda_nil))) pda_nil)) pd_int)))
abbrev s_odd_pairs : Stmt := topS 33
theorem sc_odd_pairs : FnScope ["book", "table", "names", "pairs", "other", "k", "one", "pair"] ["book"] (defScope s_odd_pairs) := ⟨rfl, rfl, rfl, by decide +kernel, rfl, by decide +kernel, by decide +kernel⟩
def t_odd_pairs : DS :=
  (dSeq (dAsg 1 (dN m_lists_table (dArgs [(dVar 0)])))
  (dSeq (dAsg 2 (dN sortKD (dArgs [(dVar 1)])))
  (dSeq (dAsg 3 (dLc2 (dEnumA (dVar 2)) (tgT [5, 6]) dYes (dItems (dSl (dVar 2) (dPart (d2 addD (dVar 5) (dC (.int 1)))) dNo)) (tgN 4) dYes (dTup [(dVar 6), (dVar 4)]) [5, 6, 4] [4]))
  (dRet (dN tupD (dArgs [(dLc (dItems (dVar 3)) (tgN 7) (dNotT (dB (dN m_agree (dArgs [(d2 dgetD (dVar 1) (d2 ixD (dVar 7) (dC (.int 0)))), (d2 dgetD (dVar 1) (d2 ixD (dVar 7) (dC (.int 1))))])))) (dVar 7) [7])]))))))
def m_odd_pairs : List PyData → Option PyData := runD 8 t_odd_pairs
theorem ok_odd_pairs (T : Bl mg) (F : DefAt K mg "odd_pairs" s_odd_pairs) (D_agree : DefOk P w K mg base CX0 10 "agree" ["one", "other"] (spD K 2 m_agree)) (D_lists_table : DefOk P w K mg base CX0 9 "lists_table" ["book"] (spD K 1 m_lists_table)) : DefOk P w K mg base CX0 11 "odd_pairs" ["book"] (spD K 1 m_odd_pairs) :=
  F.okD (N := ["book", "table", "names", "pairs", "other", "k", "one", "pair"]) (ps := ["book"]) sc_odd_pairs t_odd_pairs (fun _ _ _ _ _ _ us hl => match us, hl with | [_], _ => rfl) (fun _ _ _ _ _ _ us hl => match us, hl with | [_], _ => rfl) fun f cdv A outer s H E hr =>
    (pds_cons (pds_set (i := 1) sc_odd_pairs.nd rfl (by first | exact Or.inl rfl | exact Or.inr rfl) (pd_def D_lists_table (hr.mono (by decide)) rfl pass0 (pda_cons (pd 0) pda_nil)))
      (pds_cons (pds_set (i := 2) sc_odd_pairs.nd rfl (by first | exact Or.inl rfl | exact Or.inr rfl) (pd_callB (call_sortKD rfl hr.units) rfl T.sorted boot_sorted (pda_cons (pd 1) pda_nil)))
      (pds_cons (pds_setLc2 (i := 3) (own := [("k", 5), ("one", 6), ("other", 4)]) (vs1 := [4]) (R1 := Rp K) (tgs := [5, 6]) (tgs1 := [4]) rfl sc_odd_pairs.nd rfl rfl (sw_true rfl rfl rfl (by decide +kernel)) (pdi_enumA rfl T.enumerate (pd 2)) (blkOk_by (own := [("k", 5), ("one", 6), ("other", 4)]) (N := ["book", "table", "names", "pairs", "other", "k", "one", "pair"]) (sc := (defScope s_odd_pairs)) (by decide +kernel)) (by decide) (by decide) (by decide) (fun _ _ _ _ _ => (pdg_tupW rfl (pdgs_cons (pdg_name (i := 5) sc_odd_pairs.nd rfl (by first | exact Or.inl rfl | exact Or.inr rfl)) (pdgs_cons (pdg_name (i := 6) sc_odd_pairs.nd rfl (by first | exact Or.inl rfl | exact Or.inr rfl)) pdgs_nil)))) (fun _ _ _ _ _ => pdts_nil) (fun _ _ _ _ _ => (pdi_seq (pd_slice (pd 2) (pdo_some (pd_op op_addD (pd 5) pd_int)) pdo_none))) (fun _ _ _ _ _ => (pdg_name (i := 4) sc_odd_pairs.nd rfl (by first | exact Or.inl rfl | exact Or.inr rfl))) (fun _ _ _ _ _ => pdts_nil) (fun _ _ _ _ _ => (pd_tup (pda_cons (pd 6) (pda_cons (pd 4) pda_nil)))))
      (pds_one (pds_ret (pd_callTy call_tupD rfl T.tuple boot_tuple (pda_cons (pd_lc (own := [("pair", 7)]) rfl sc_odd_pairs.nd (pdi_seq (pd 3)) (blkOk_by (own := [("pair", 7)]) (N := ["book", "table", "names", "pairs", "other", "k", "one", "pair"]) (sc := (defScope s_odd_pairs)) (by decide +kernel)) (by decide) (fun _ _ _ _ _ => (pdg_name (i := 7) sc_odd_pairs.nd rfl (by first | exact Or.inl rfl | exact Or.inr rfl))) (fun _ _ _ _ _ => (pdts_one (pdt_not (pdt_val (pd_def D_agree (hr.mono (by decide)) rfl pass0 (pda_cons (pd_dget (hu_of hr) (pd 1) (pd_ix ix_D (pd 7) pd_int)) (pda_cons (pd_dget (hu_of hr) (pd 1) (pd_ix ix_D (pd 7) pd_int)) pda_nil))))))) (fun _ _ _ _ _ => (pd 7))) pda_nil)))))))
abbrev s_is_good : Stmt := topS 34
theorem sc_is_good : FnScope ["book"] ["book"] (defScope s_is_good) := ⟨rfl, rfl, rfl, by decide +kernel, rfl, by decide +kernel, by decide +kernel⟩
def t_is_good : DS :=
  (dRet (d2 eqD (dN lenD (dArgs [(dN m_odd_pairs (dArgs [(dVar 0)]))])) (dC (.int 0))))
def m_is_good : List PyData → Option PyData := runD 1 t_is_good
theorem ok_is_good (T : Bl mg) (F : DefAt K mg "is_good" s_is_good) (D_odd_pairs : DefOk P w K mg base CX0 11 "odd_pairs" ["book"] (spD K 1 m_odd_pairs)) : DefOk P w K mg base CX0 12 "is_good" ["book"] (spD K 1 m_is_good) :=
  F.okD (N := ["book"]) (ps := ["book"]) sc_is_good t_is_good (fun _ _ _ _ _ _ us hl => match us, hl with | [_], _ => rfl) (fun _ _ _ _ _ _ us hl => match us, hl with | [_], _ => rfl) fun f cdv A outer s H E hr =>
    (pds_one (pds_ret (pd_cmp (op_eqDD hr.units) (pd_callB call_lenDD rfl T.len boot_len (pda_cons (pd_def D_odd_pairs (hr.mono (by decide)) rfl pass0 (pda_cons (pd 0) pda_nil)) pda_nil)) pd_int)))
abbrev s_good_with : Stmt := topS 36
theorem sc_good_with : FnScope ["book", "payer", "row"] ["book", "payer", "row"] (defScope s_good_with) := ⟨rfl, rfl, rfl, by decide +kernel, rfl, by decide +kernel, by decide +kernel⟩
def t_good_with : DS :=
  (dRet (dN m_is_good (dArgs [(dN m_with_list (dArgs [(dVar 0), (dVar 1), (dVar 2)]))])))
def m_good_with : List PyData → Option PyData := runD 3 t_good_with
theorem ok_good_with (T : Bl mg) (F : DefAt K mg "good_with" s_good_with) (D_is_good : DefOk P w K mg base CX0 12 "is_good" ["book"] (spD K 1 m_is_good)) (D_with_list : DefOk P w K mg base CX0 11 "with_list" ["book", "payer", "row"] (spD K 3 m_with_list)) : DefOk P w K mg base CX0 13 "good_with" ["book", "payer", "row"] (spD K 3 m_good_with) :=
  F.okD (N := ["book", "payer", "row"]) (ps := ["book", "payer", "row"]) sc_good_with t_good_with (fun _ _ _ _ _ _ us hl => match us, hl with | [_, _, _], _ => rfl) (fun _ _ _ _ _ _ us hl => match us, hl with | [_, _, _], _ => rfl) fun f cdv A outer s H E hr =>
    (pds_one (pds_ret (pd_def D_is_good (hr.mono (by decide)) rfl pass0 (pda_cons (pd_def D_with_list (hr.mono (by decide)) rfl pass0 (pda_cons (pd 0) (pda_cons (pd 1) (pda_cons (pd 2) pda_nil)))) pda_nil))))
-- levels {'x': 1, 'is_number': 1, 'is_amount': 2, 'is_name': 1, 'is_pair': 1, 'set_of': 1, 'tupled': 8, 'bills': 9, 'payers': 1, 'lists_table': 9, 'check_payer': 2, 'check_bills': 10, 'list_of': 10, 'with_table': 2, 'with_list': 11, 'are_amounts': 3, 'is_dues': 10, 'sum_of': 1, 'rest_of': 1, 'odd_bills': 9, 'agree': 10, 'odd_pairs': 11, 'is_good': 12, 'good_with': 13}
end
end Od
end
section
set_option maxHeartbeats 4000000
/-! OdLay: lay_on, laid, law_lay. -/
namespace Od
open PySem PySem.Spec PyProof.Rows L2
section
variable {P : Program} {w : World} {K : PySem.W.Frag} {mg : Str → Option Value} {base : Heap} {k : Nat} {x : Str} {st : Stmt} {N ps : List Str}
theorem DefAt.okH (F : DefAt K mg x st) (S : FnScope N ps (defScope st)) {sp : Sp}
    (hb : ∀ (kV doc pm : Value) (an : Option Addr) (cdv ct : Value) (us : List Value), us.length = ps.length → bindArgs (PySem.W.fnOf x x (defArgs st) (defBody st) (defScope st) .none kV doc pm an cdv ct) ⟨us, []⟩ = pure (ps.zip us))
    (hbk : ∀ (kV doc pm : Value) (an : Option Addr) (cdv ct : Value) (us : List Value), us.length = ps.length → bindArgs (PySem.W.fnOf x x (defArgs st) (defBody st) (defScope st) .none kV doc pm an cdv ct) ⟨[], ps.zip us⟩ = pure (ps.zip us))
    (len : ∀ vs H Q E, sp vs H Q E → vs.length = ps.length)
    (hbody : ∀ (f : Addr) (cdv : Value) (A : Around) (outer : List Env) (s : Shared) (H : Hp) (vs : List V) (Q : VK) (E : XK), Room k (A.deeper (envOfC x (defScope st) s.heap.objs.size f cdv)) → sp vs H Q E →
      ∃ t, PSs (cxOf CX0 P w K mg base N x (defScope st) f cdv A outer s H E).nox (defBody st) t ∧ t { nx := fun _ H' => Q .non H', rt := Q } (L2.start N vs) H) :
    DefOk P w K mg base CX0 (k + 1) x ps sp := by
  obtain ⟨f, fd, F, hm⟩ := F.ex
  exact ⟨f, fd, F.ok S len (hbody f), hm, F.kp, F.binds hb, Fun.kb F hbk⟩
/-! ### lay_on -/
/-- what a list lays of an amount: the pairs, the dues behind, what is left -/
def layGo : List PyData → Int → Es → List PyData → Option (List PyData × Es × Int)
  | [], m, es, fd => some (fd, es, m)
  | .str b :: r, m, es, fd => match getE es b with
    | some (.int q) => if 0 < (if q < m then q else m) then layGo r (m - (if q < m then q else m)) (putE es b (.int (q - (if q < m then q else m)))) (fd ++ [.tuple [.str b, .int (if q < m then q else m)]]) else layGo r m es fd
    | _ => none
  | _ :: _, _, _, _ => none
def spLay (K : PySem.W.Frag) : Sp := fun vs H Q _ => ∃ vr a m G kvs es ds fd es' m', vs = [vr, .ref a, .int m] ∧ Same G H ∧ G a = none ∧ H a = some (.dK kvs) ∧ RpKv K G kvs es ∧ es.length ≤ 1000 ∧ Rp K G vr (.tuple ds) ∧ ds.length ≤ 1000 ∧ layGo ds m es [] = some (fd, es', m') ∧
  ∀ v G' H' kvs', NxtM [a] G H G' H' → H' a = some (.dK kvs') → RpKv K G' kvs' es' → Rp K G' v (.list fd) → Q v H'
abbrev s_lay_on : Stmt := topS 26
theorem sc_lay_on : FnScope ["row", "due", "amount", "bill", "found", "rest", "much"] ["row", "due", "amount"] (defScope s_lay_on) := ⟨rfl, rfl, rfl, by decide +kernel, rfl, by decide +kernel, by decide +kernel⟩
theorem setE_len : ∀ (es : Es) (x : Str) (d : PyData), (setE es x d).length = es.length
  | [], _, _ => rfl
  | (k, e) :: r, x, d => by
    cases k <;> exact congrArg (· + 1) (setE_len r x d)
theorem putE_len {es : Es} {x : Str} {d e : PyData} (h : getE es x = some e) : (putE es x d).length = es.length := by
  unfold putE
  rw [h]
  exact setE_len es x d
theorem get_set {σ : L2.St} {i j : Nat} {o o' : Option V} (h : σ[i]? = some o') (hij : i ≠ j) : (σ.set j o)[i]? = some o' := by rw [List.getElem?_set_ne (Ne.symm hij)]; exact h
theorem Sl.none_ {K : PySem.W.Frag} {G : Hp} {σ : L2.St} {n : Nat} (h : σ.length = n) : Sl K G σ (List.replicate n none) := ⟨by rw [List.length_replicate]; exact h, fun i d h => by
  rw [List.getElem?_replicate] at h
  split at h <;> cases h⟩
theorem Sl.add {K : PySem.W.Frag} {G : Hp} {σ : L2.St} {ρ : DEnv} {i : Nat} {v : V} {d : PyData} (s : Sl K G σ ρ) (h : σ[i]? = some (some v)) (r : Rp K G v d) : Sl K G σ (ρ.set i (some d)) := ⟨by rw [List.length_set]; exact s.len, fun j e hj => by
  by_cases hi : i = j
  · subst hi
    have hl : i < ρ.length := by
      have q := (List.getElem?_eq_some_iff.mp hj).1
      rwa [List.length_set] at q
    rw [List.getElem?_set_self hl] at hj
    cases hj
    exact ⟨v, h, r⟩
  · rw [List.getElem?_set_ne hi] at hj
    exact s.at_ j e hj⟩
theorem one_mem {a : Addr} {H : Hp} {u : HO} (h : H a = some u) : ∀ b ∈ [a], ∃ u, H b = some u := fun b hb => ⟨u, by rw [List.mem_singleton.mp hb]; exact h⟩
structure LayInv (K : PySem.W.Frag) (a p : Addr) (G0 H0 : Hp) (ds fd : List PyData) (es' : Es) (m' : Int) (i : Nat) (G : Hp) (σ : L2.St) (H : Hp) (kvs : List (Key × V)) (acc : List V) (es : Es) (m : Int) (fi : List PyData) : Prop where
  len : σ.length = 7
  s1 : σ[1]? = some (some (.ref a))
  s4 : σ[4]? = some (some (.ref p))
  s5 : σ[5]? = some (some (.int m))
  n : NxtM [a] G0 H0 G H
  ha : H a = some (.dK kvs)
  rk : RpKv K G kvs es
  le : es.length ≤ 1000
  gp : G p = none
  hp : H p = some (.lst acc)
  rl : RpAll K G acc fi
  la : acc.length ≤ i
  go : layGo (ds.drop i) m es fi = some (fd, es', m')
theorem ok_lay_on (T : Bl mg) (F : DefAt K mg "lay_on" s_lay_on) : DefOk P w K mg base CX0 1 "lay_on" ["row", "due", "amount"] (spLay K) := by
  refine F.okH (N := ["row", "due", "amount", "bill", "found", "rest", "much"]) (ps := ["row", "due", "amount"]) sc_lay_on (fun _ _ _ _ _ _ us hl => match us, hl with | [_, _, _], _ => rfl) (fun _ _ _ _ _ _ us hl => match us, hl with | [_, _, _], _ => rfl) (fun vs H Q E ⟨vr, a, m, G, kvs, es, ds, fd, es', m', h, _⟩ => by rw [h] <;> rfl) fun f cdv A outer s H vs Q E hr h => ?_
  refine ⟨_, pss_cons (ps_par (i := 4) (j := 5) rfl sc_lay_on.nd rfl rfl (by decide) rfl rfl (pa_cons (pe_lst pa_nil) (pa_cons (pv 2) pa_nil)) (by rfl))
    (pss_cons (ps_for PassesOwn.never rfl (pdi_seq (pd 0)) (pdg_name (i := 3) sc_lay_on.nd rfl (by first | exact Or.inl rfl | exact Or.inr rfl))
      (pss_cons (ps_set (i := 6) sc_lay_on.nd rfl (by first | exact Or.inl rfl | exact Or.inr rfl) (pd_callB (call_minD rfl) rfl T.min boot_min (pda_cons (pd 5) (pda_cons (pd_dget (hu_of hr) (pd 1) (pd 3)) pda_nil))))
      (pss_one (ps_if (pdt_cmp op_gtD (pd 6) pd_int)
        (pss_cons (ps_append (i := 4) rfl (pd_tup (pda_cons (pd 3) (pda_cons (pd 6) pda_nil))))
        (pss_cons (ps_dput (hu_of hr) (pv 1) (pd 3) (pd_op op_subD (pd_dget (hu_of hr) (pd 1) (pd 3)) (pd 6)) (by rfl))
        (pss_one (ps_set (i := 5) sc_lay_on.nd rfl (by first | exact Or.inl rfl | exact Or.inr rfl) (pd_op op_subD (pd 5) (pd 6))))))
        pss_nil))))
    (pss_one (ps_ret (pv 4)))), ?_⟩
  obtain ⟨vr, a, m, G, kvs, es, ds, fd, es', m', rfl, vw, ga, ha, rk, hes, rr, hds, hl, q⟩ := h
  refine ⟨Nat.zero_le _, fun p hp => ⟨.int m, rfl, .ref p, .int m, rfl, ?_⟩⟩
  have hap : a ≠ p := fun z => by rw [z, hp] at ha; cases ha
  have vw1 : Same G (upd H p (.lst [])) := vw.trans (same_upd hp)
  have n0 : NxtM [a] G H G (upd H p (.lst [])) := (NxtM.refl vw (M := [a]) fun b hb => by rw [List.mem_singleton.mp hb]; exact ga).lay hp
  refine ⟨G, (List.replicate 7 none).set 0 (some (.tuple ds)), ds, vw1, (Sl.none_ rfl).add rfl rr, rfl, fun J G1 H1 n1 wk => ?_⟩
  refine for_hand (fun i G2 σ H2 => ∃ kvs acc es m fi, LayInv K a p G H ds fd es' m' i G2 σ H2 kvs acc es m fi ∧ Same G1 G2) wk ?_ ?_ ?_ ?_
  · have hm : (upd H p (.lst [])) a = some (.dK kvs) := by rw [upd_ne hap]; exact ha
    have hm2 : (upd H p (.lst [])) p = some (.lst []) := upd_same
    exact ⟨kvs, [], es, m, [], ⟨rfl, rfl, rfl, rfl, n0.step n1 (one_mem hm), n1.h _ _ hm, RpKv.mono n1.g rk, hes, n1.mask (vw.free hp) hm2, n1.h _ _ hm2, .nil, Nat.le_refl _, hl⟩, Same.refl _⟩
  · rintro i G2 σ H2 ⟨kvs, acc, es, m, fi, I, s⟩
    exact ⟨s, I.n.v⟩
  · rintro i d G2 σ H2 hd ⟨kvs2, acc, es2, m2, fi, I, sg⟩ x G3 H3 n3 rx
    have hdrop : ds.drop i = d :: ds.drop (i + 1) := by
      obtain ⟨hlt, e⟩ := List.getElem?_eq_some_iff.mp hd
      rw [List.drop_eq_getElem_cons hlt, e]
    have go := I.go
    rw [hdrop] at go
    cases d with
    | str b =>
      unfold layGo at go
      cases rx
      cases hg : getE es2 b with
      | none => rw [hg] at go; cases go
      | some qd =>
      cases qd with
      | int qv =>
        rw [hg] at go
        dsimp only at go
        have ha3 := n3.h _ _ I.ha
        have hp3 := n3.h _ _ I.hp
        have ga3 : G3 a = none := n3.mask (I.n.m a (List.mem_singleton.mpr rfl)) I.ha
        have gp3 : G3 p = none := n3.mask I.gp I.hp
        have rk3 := RpKv.mono n3.g I.rk
        have nn := I.n.step n3 (one_mem I.ha)
        refine ⟨G3, List.replicate 7 none, .str b, _, n3.v, Sl.none_ I.len, .str b, rfl, fun σ2 s2 a2 => ?_⟩
        have l2 : σ2.length = 7 := by rw [a2.1]; exact I.len
        have z1 : σ2[1]? = some (some (.ref a)) := by rw [a2.2 1 (by decide)]; exact I.s1
        have z4 : σ2[4]? = some (some (.ref p)) := by rw [a2.2 4 (by decide)]; exact I.s4
        have z5 : σ2[5]? = some (some (.int m2)) := by rw [a2.2 5 (by decide)]; exact I.s5
        obtain ⟨vb, z3, hvb⟩ := s2.at_ 3 (.str b) rfl
        cases hvb
        -- the dues, laid open
        have vo := same_open n3.v ha3
        have so : Sl K (upd G3 a (.dK kvs2)) σ2 ((((List.replicate 7 none).set 5 (some (.int m2))).set 3 (some (.str b))).set 1 (some (.dict es2))) :=
          (((Sl.none_ l2).add z5 (.int m2)).add z3 (.str b)).add z1 (.dic upd_same (RpKv.mono (same_upd ga3) rk3))
        generalize hmu : (if qv < m2 then qv else m2) = mu at go
        refine liE_open (d := .int mu) vo so (by
          show dN minD (dArgs [dVar 5, d2 dgetD (dVar 1) (dVar 3)]) _ = _
          have e1 : d2 dgetD (dVar 1) (dVar 3) ((((List.replicate 7 none).set 5 (some (.int m2))).set 3 (some (.str b))).set 1 (some (.dict es2))) = some (.int qv) := hg
          unfold dN dArgs
          rw [show dVar 5 ((((List.replicate 7 none).set 5 (some (.int m2))).set 3 (some (.str b))).set 1 (some (.dict es2))) = some (.int m2) from rfl]
          dsimp only
          unfold dArgs
          rw [e1]
          show some (PyData.int (if qv < m2 then qv else m2)) = _
          rw [hmu]) rfl fun v H4 h4 rv => ?_
        have rv0 := rv G3
        cases rv0
        -- much > 0
        have ha4 := h4 _ _ ha3
        have hp4 := h4 _ _ hp3
        have n4 : NxtM [a] G H G3 H4 := nn.trans (NxtM.trans (NxtM.refl n3.v nn.m) ⟨fun b u _ e => h4 b u e, Same.refl _, n3.v.trans h4, nn.m, fun _ _ e => .inl e⟩)
        have w1 : (σ2.set 6 (some (.int mu)))[1]? = some (some (.ref a)) := get_set z1 (by decide)
        have w4 : (σ2.set 6 (some (.int mu)))[4]? = some (some (.ref p)) := get_set z4 (by decide)
        have w5 : (σ2.set 6 (some (.int mu)))[5]? = some (some (.int m2)) := get_set z5 (by decide)
        have w3 : (σ2.set 6 (some (.int mu)))[3]? = some (some (.str b)) := get_set z3 (by decide)
        have w6 : (σ2.set 6 (some (.int mu)))[6]? = some (some (.int mu)) := List.getElem?_set_self (by omega)
        have wl : (σ2.set 6 (some (.int mu))).length = 7 := by rw [List.length_set]; exact l2
        refine liT_open (ρ := (List.replicate 7 none).set 6 (some (.int mu))) (b := decide (0 < mu)) n4.v ((Sl.none_ (n := 7) wl).add w6 (.int mu)) rfl fun H5 h5 => ?_
        have ha5 := h5 _ _ ha4
        have hp5 := h5 _ _ hp4
        have n5 : NxtM [a] G H G3 H5 := n4.trans ⟨fun b u _ e => h5 b u e, Same.refl _, n4.v.trans h5, nn.m, fun _ _ e => .inl e⟩
        by_cases hpos : 0 < mu
        · rw [if_pos hpos] at go
          rw [show decide (0 < mu) = true from decide_eq_true hpos]
          refine iteT ?_
          -- found.append
          refine ⟨p, w4, ⟨_, hp5⟩, G3, ((List.replicate 7 none).set 3 (some (.str b))).set 6 (some (.int mu)), .tuple [.str b, .int mu], n5.v, ((Sl.none_ wl).add w3 (.str b)).add w6 (.int mu), rfl, fun v6 G6 H6 n6 r6 => ?_⟩
          have r6' : Rp K G6 v6 (.tuple [.str b, .int mu]) := r6
          have ha6 := n6.h _ _ ha5
          have hp6 := n6.h _ _ hp5
          have gp6 : G6 p = none := n6.mask gp3 hp5
          have ga6 : G6 a = none := n6.mask ga3 ha5
          have nn6 := n5.step n6 (one_mem ha5)
          have rl6 := I.rl.mono (n3.g.trans n6.g)
          have rk6 := RpKv.mono n6.g rk3
          have hlen : acc.length < sizeLine := by
            have q1 := I.la
            have q2 := (List.getElem?_eq_some_iff.mp hd).1
            exact Nat.lt_of_lt_of_le (show acc.length < 1000001 by omega) (by rw [sizeLine_eq]; decide)
          refine app_in hp6 hlen ?_
          have hp7 : (upd H6 p (.lst (acc ++ [v6]))) p = some (.lst (acc ++ [v6])) := upd_same
          have ha7 : (upd H6 p (.lst (acc ++ [v6]))) a = some (.dK kvs2) := by rw [upd_ne hap]; exact ha6
          have n7 : NxtM [a] G H G6 (upd H6 p (.lst (acc ++ [v6]))) := nn6.write (.inr hp) gp6
          -- due[bill] = due[bill] - much
          have vo7 := same_open n7.v ha7
          have so7 : Sl K (upd G6 a (.dK kvs2)) (σ2.set 6 (some (V.int mu))) ((((List.replicate 7 none).set 6 (some (.int mu))).set 3 (some (.str b))).set 1 (some (.dict es2))) :=
            (((Sl.none_ wl).add w6 (.int mu)).add w3 (.str b)).add w1 (.dic upd_same (RpKv.mono (same_upd ga6) rk6))
          refine liE_open (d := .int (qv - mu)) vo7 so7 (by
            have e1 : d2 dgetD (dVar 1) (dVar 3) ((((List.replicate 7 none).set 6 (some (.int mu))).set 3 (some (.str b))).set 1 (some (.dict es2))) = some (.int qv) := hg
            unfold d2 at e1 ⊢
            rw [e1]
            rfl) rfl fun v8 H8 h8 rv8 => ?_
          have rv8' := rv8 G6
          cases rv8'
          have ha8 := h8 _ _ ha7
          have hp8 := h8 _ _ hp7
          have n8 : NxtM [a] G H G6 H8 := n7.trans ⟨fun b u _ e => h8 b u e, Same.refl _, n7.v.trans h8, n7.m, fun _ _ e => .inl e⟩
          refine ⟨.ref a, w1, G6, (List.replicate 7 none).set 3 (some (.str b)), .str b, n8.v, (Sl.none_ wl).add w3 (.str b), rfl, fun v9 G9 H9 n9 r9 => ?_⟩
          cases r9
          have ha9 := n9.h _ _ ha8
          have hp9 := n9.h _ _ hp8
          have ga9 : G9 a = none := n9.mask ga6 ha8
          have gp9 : G9 p = none := n9.mask gp6 hp8
          have nn9 := n8.step n9 (one_mem ha8)
          have rk9 := RpKv.mono n9.g rk6
          refine ⟨a, _, rfl, DPut.k (k := .inr b) ha9 (by rw [rk9.length]; exact small1000 I.le), ?_⟩
          have rk10 : RpKv K G9 (putK kvs2 (.inr b) (.int (qv - mu))) (putE es2 b (.int (qv - mu))) := rk9.put (.int _)
          have ha10 : (upd H9 a (.dK (putK kvs2 (.inr b) (.int (qv - mu))))) a = some (.dK (putK kvs2 (.inr b) (.int (qv - mu)))) := upd_same
          have hp10 : (upd H9 a (.dK (putK kvs2 (.inr b) (.int (qv - mu))))) p = some (.lst (acc ++ [v6])) := by rw [upd_ne (Ne.symm hap)]; exact hp9
          have n10 : NxtM [a] G H G9 (upd H9 a (.dK (putK kvs2 (.inr b) (.int (qv - mu))))) := nn9.write (.inl (List.mem_singleton.mpr rfl)) ga9
          -- rest = rest - much
          refine liE_open (d := .int (m2 - mu)) n10.v (((Sl.none_ (n := 7) wl).add w5 (.int m2)).add w6 (.int mu)) rfl rfl fun v11 H11 h11 rv11 => ?_
          have rv11' := rv11 G9
          cases rv11'
          refine ⟨G9, _, acc ++ [v6], _, m2 - mu, fi ++ [.tuple [.str b, .int mu]], ⟨by rw [List.length_set]; exact wl, get_set w1 (by decide), get_set w4 (by decide), List.getElem?_set_self (by omega), n10.trans ⟨fun b u _ e => h11 b u e, Same.refl _, n10.v.trans h11, n10.m, fun _ _ e => .inl e⟩, h11 _ _ ha10, rk10, by rw [putE_len hg]; exact I.le, gp9, h11 _ _ hp10, (rl6.mono n9.g).append (.cons (r6'.mono n9.g) .nil), by rw [List.length_append]; exact Nat.succ_le_succ I.la, go⟩, sg.trans (n3.g.trans (n6.g.trans n9.g))⟩
        · rw [if_neg hpos] at go
          rw [show decide (0 < mu) = false from decide_eq_false hpos]
          refine iteF ?_
          exact ⟨G3, kvs2, acc, es2, m2, fi, ⟨wl, w1, w4, w5, n5, ha5, rk3, I.le, gp3, hp5, I.rl.mono n3.g, Nat.le_succ_of_le I.la, go⟩, sg.trans n3.g⟩
      | _ => rw [hg] at go; cases go
    | _ =>
      unfold layGo at go
      cases go
  · rintro G2 σ H2 ⟨kvs2, acc, es2, m2, fi, I, sg⟩
    have go := I.go
    rw [List.drop_length] at go
    cases go
    refine ⟨.ref p, I.s4, ?_⟩
    have n5 := I.n.publish (p := p) (o := .lst acc) hp (fun z => hap (List.mem_singleton.mp z).symm) I.gp I.hp
    exact q _ _ _ _ n5 I.ha (RpKv.mono (same_upd I.gp) I.rk) (.lst upd_same (I.rl.mono (same_upd I.gp)))
end
end Od
end
section
set_option maxHeartbeats 4000000
/-! OdLaid: laid. -/
namespace Od
open PySem PySem.Spec PyProof.Rows L2
/-- a call of a def by whatever it promises -/
theorem pe_defP {X : Cx} {CX : CXT} {k : Nat} {x : Str} {ps : List Str} {E : XK} {sp : Sp} {e : Expr} {es : List Expr} {t : TA} {p pos : Pos} (D : DefOk X.prog X.w X.K X.mg X.base CX k x ps sp) (hr : Room k X.A) (hg : Gl X x) (hx : Passes CX X E)
    (ha : PA X (e :: es) t) (hdb : (x == ("__debug__" : Str)) = false := by decide) (he : starEach (e :: es) X.env = (false, eval e X.env) :: starEach es X.env := by rfl) (hpl : (backTo pos (starEach es X.env)).any (·.1) = false := by rfl) :
    PE X (.Call (.Name x p) (e :: es) [] pos) (fun σ H Q => t σ H fun vs H1 => sp vs H1 Q E) := by
  obtain ⟨_, _, F, m, kp, b, _⟩ := D.ex
  have h := pe_call (p := p) (t := t) F hr hg m kp b .nil hx ha hdb he hpl
  refine PE.imp h fun σ H Q q => ?_
  have e : (fun vs H1 => sp (vs ++ []) H1 Q E) = (fun vs H1 => sp vs H1 Q E) := by
    funext vs
    rw [List.append_nil]
  show t σ H (fun vs H1 => sp (vs ++ []) H1 Q E)
  rw [e]
  exact q
def laidTail : DS := dRet (dTup [dN tupD (dArgs [d1 sortItemsD (dVar 4)]), d2 subD (dVar 3) (dN m_sum_of (dArgs [dVar 5]))])
def m_laid : List PyData → Option PyData
  | [book, dues, payer, .int m] => match m_check_payer [book, payer] with
    | some _ => match m_tupled [dues] with
      | some (.tuple ps) => if ps.length ≤ 1000 then match pairKv ps with
        | some es0 => match m_list_of [book, payer] with
          | some (.tuple row) => if row.length ≤ 1000 then match layGo row m (mergeE [] es0) [] with
            | some (fd, es', _) => match laidTail [some book, some dues, some payer, some (.int m), some (.dict es'), some (.list fd)] with
              | some (.rt d) => some d
              | _ => none
            | none => none
            else none
          | _ => none
        | none => none
        else none
      | _ => none
    | none => none
  | _ => none
abbrev s_laid : Stmt := topS 28
theorem sc_laid : FnScope ["book", "dues", "payer", "amount", "due", "found"] ["book", "dues", "payer", "amount"] (defScope s_laid) := ⟨rfl, rfl, rfl, by decide +kernel, rfl, by decide +kernel, by decide +kernel⟩
theorem pairKv_len : ∀ {ps : List PyData} {es : Es}, pairKv ps = some es → es.length = ps.length
  | [], es, e => by cases e; rfl
  | p :: r, es, e => by
    unfold pairKv at e
    split at e
    · rename_i h0; cases h0
    · rename_i x d r' h0
      cases h0
      split at e
      · rename_i es' h1
        cases e
        exact congrArg (· + 1) (pairKv_len h1)
      · cases e
    · cases e
theorem putE_le (es : Es) (x : Str) (d : PyData) : (putE es x d).length ≤ es.length + 1 := by
  unfold putE
  split
  · rw [setE_len]; omega
  · rw [List.length_append]; exact Nat.le_refl _
theorem mergeE_le : ∀ (ms es : Es), (mergeE es ms).length ≤ es.length + ms.length
  | [], es => Nat.le_refl _
  | (k, d) :: r, es => by
    cases k with
    | str x =>
      have h1 := mergeE_le r (putE es x d)
      have h2 := putE_le es x d
      show (mergeE (putE es x d) r).length ≤ _
      rw [List.length_cons]
      omega
    | _ =>
      have h1 := mergeE_le r es
      show (mergeE es r).length ≤ _
      rw [List.length_cons]
      omega
section
variable {P : Program} {w : World} {K : PySem.W.Frag} {mg : Str → Option Value} {base : Heap}
theorem ok_laid (T : Bl mg) (F : DefAt K mg "laid" s_laid) (D_check_payer : DefOk P w K mg base CX0 2 "check_payer" ["book", "payer"] (spD K 2 m_check_payer)) (D_tupled : DefOk P w K mg base CX0 8 "tupled" ["value"] (spD K 1 m_tupled))
    (D_list_of : DefOk P w K mg base CX0 10 "list_of" ["book", "payer"] (spD K 2 m_list_of)) (D_lay_on : DefOk P w K mg base CX0 1 "lay_on" ["row", "due", "amount"] (spLay K)) (D_sum_of : DefOk P w K mg base CX0 1 "sum_of" ["pairs"] (spD K 1 m_sum_of)) :
    DefOk P w K mg base CX0 11 "laid" ["book", "dues", "payer", "amount"] (spD K 4 m_laid) := by
  refine F.okH (N := ["book", "dues", "payer", "amount", "due", "found"]) (ps := ["book", "dues", "payer", "amount"]) sc_laid (fun _ _ _ _ _ _ us hl => match us, hl with | [_, _, _, _], _ => rfl) (fun _ _ _ _ _ _ us hl => match us, hl with | [_, _, _, _], _ => rfl) (fun vs H Q E h => h.1) fun f cdv A outer s H vs Q E hr h => ?_
  refine ⟨_, pss_cons (pds_expr (F := []) (pd_def D_check_payer (hr.mono (by decide)) rfl pass0 (pda_cons (pd 0) (pda_cons (pd 2) pda_nil))))
    (pss_cons (ps_set (i := 4) sc_laid.nd rfl (by first | exact Or.inl rfl | exact Or.inr rfl) (pe_callTy (call_dictT rfl) rfl T.dict boot_dict (pda_cons (pd_def D_tupled (hr.mono (by decide)) rfl pass0 (pda_cons (pd 1) pda_nil)) pda_nil)))
    (pss_cons (ps_set (i := 5) sc_laid.nd rfl (by first | exact Or.inl rfl | exact Or.inr rfl) (pe_defP D_lay_on (hr.mono (by decide)) rfl pass0 (pa_cons (pd_def D_list_of (hr.mono (by decide)) rfl pass0 (pda_cons (pd 0) (pda_cons (pd 2) pda_nil))) (pa_cons (pv 4) (pa_cons (pd 3) pa_nil)))))
    (pss_one (pds_ret (F := []) (pd_tup (pda_cons (pd_callTy call_tupD rfl T.tuple boot_tuple (pda_cons (pd_sortedItems rfl hr.units rfl T.sorted boot_sorted (pd 4)) pda_nil)) (pda_cons (pd_op op_subD (pd 3) (pd_def D_sum_of (hr.mono (by decide)) rfl pass0 (pda_cons (pd 5) pda_nil))) pda_nil))))))), ?_⟩
  obtain ⟨hvl, G, as, d, vw, ra, e, q⟩ := h
  unfold m_laid at e
  split at e
  rotate_left
  · cases e
  rename_i book dues payer m
  split at e
  rotate_left
  · cases e
  rename_i cd hcd
  split at e
  rotate_left
  · cases e
  rename_i ps hps
  split at e
  rotate_left
  · cases e
  rename_i hpl
  split at e
  rotate_left
  · cases e
  rename_i es0 hes
  split at e
  rotate_left
  · cases e
  rename_i row hrow
  split at e
  rotate_left
  · cases e
  rename_i hrl
  split at e
  rotate_left
  · cases e
  rename_i fd es' m' hgo
  split at e
  rotate_left
  · cases e
  rename_i dd htail
  cases e
  cases ra with
  | cons r0 ra =>
  cases ra with
  | cons r1 ra =>
  cases ra with
  | cons r2 ra =>
  cases ra with
  | cons r3 ra =>
  cases ra
  cases r3
  rename_i v0 v1 v2
  have s0 : Sl K G (L2.start ["book", "dues", "payer", "amount", "due", "found"] [v0, v1, v2, .int m]) [some book, some dues, some payer, some (.int m), none, none] :=
    ((((Sl.none_ (n := 6) rfl).add (i := 0) rfl r0).add (i := 1) rfl r1).add (i := 2) rfl r2).add (i := 3) rfl (.int m)
  refine ⟨G, _, .nx [some book, some dues, some payer, some (.int m), none, none], vw, s0, (by
    show (match dN m_check_payer (dArgs [dVar 0, dVar 2]) _ with | some _ => some (Out.nx _) | none => none) = _
    rw [show dN m_check_payer (dArgs [dVar 0, dVar 2]) [some book, some dues, some payer, some (.int m), none, none] = m_check_payer [book, payer] from rfl, hcd]), fun σ1 G1 H1 n1 s1 _ => ?_⟩
  -- due = dict(tupled(dues))
  refine ⟨G1, _, [.tuple ps], n1.v, s1, (by
    show dArgs [dN m_tupled (dArgs [dVar 1])] _ = _
    unfold dArgs
    rw [show dN m_tupled (dArgs [dVar 1]) [some book, some dues, some payer, some (.int m), none, none] = m_tupled [dues] from rfl, hps]
    rfl), fun vs2 G2 H2 n2 ra2 => ?_⟩
  obtain ⟨v, rfl, rt⟩ := one_rp ra2
  cases rt with
  | @tup ta ys _ hta rys =>
  obtain ⟨bs, kvs, rfl, hp, hkv⟩ := pair_kv rys hes
  refine ⟨ta, bs, kvs, rfl, hta.mono n2.v, paired_imp (fun (p : Addr) (kv : Key × V) (t : TupF G2 p [kV kv.1, kv.2]) => (t.mono n2.v).sq) hp, fun p hp' => ?_⟩
  have n3 : Nxt G2 H2 G2 (upd H2 p (.dK (mergeK [] kvs))) := Nxt.heap n2.v (same_upd hp')
  have gp : G2 p = none := n2.v.free hp'
  have hk : (upd H2 p (.dK (mergeK [] kvs))) p = some (.dK (mergeK [] kvs)) := upd_same
  have rk : RpKv K G2 (mergeK [] kvs) (mergeE [] es0) := RpKv.merge .nil hkv
  have s3 : Sl K G2 (σ1.set 4 (some (.ref p))) [some book, some dues, some payer, some (.int m), none, none] := (s1.mono n2.g).forget (i := 4)
  have l1 : σ1.length = 6 := s1.len
  have z4 : (σ1.set 4 (some (.ref p)))[4]? = some (some (.ref p)) := List.getElem?_set_self (by omega)
  -- found = lay_on(..)
  refine ⟨G2, _, .tuple row, n3.v, s3, (by
    show dN m_list_of (dArgs [dVar 0, dVar 2]) _ = _
    rw [show dN m_list_of (dArgs [dVar 0, dVar 2]) [some book, some dues, some payer, some (.int m), none, none] = m_list_of [book, payer] from rfl, hrow]), fun v4 G4 H4 n4 r4 => ?_⟩
  have hk4 := n4.h _ _ hk
  have gp4 : G4 p = none := n4.mask gp hk
  refine ⟨.ref p, z4, G4, _, .int m, n4.v, s3.mono n4.g, rfl, fun v5 G5 H5 n5 r5 => ?_⟩
  cases r5
  have hk5 := n5.h _ _ hk4
  have gp5 : G5 p = none := n5.mask gp4 hk4
  refine ⟨v4, p, m, G5, mergeK [] kvs, mergeE [] es0, row, fd, es', m', rfl, n5.v, gp5, hk5, RpKv.mono (n4.g.trans n5.g) rk, ?_, r4.mono n5.g, hrl, hgo, fun v6 G6 H6 kvs6 n6 hk6 rk6 rv6 => ?_⟩
  · have q1 := mergeE_le es0 []
    have q2 := pairKv_len hes
    rw [List.length_nil] at q1
    omega
  -- the dues become data
  have nall : NxtM [p] G2 H2 G6 H6 := (((NxtM.refl n2.v (M := [p]) fun b hb => by rw [List.mem_singleton.mp hb]; exact gp).lay hp').trans
    ((((n4.trans n5).masked (M := [p]) (fun b hb => by rw [List.mem_singleton.mp hb]; exact gp) (one_mem hk))).trans n6))
  have gp6 : G6 p = none := n6.m p (List.mem_singleton.mpr rfl)
  have nf := (nall.forget (M := []) hp').publish (p := p) (o := .dK kvs6) hp' (by simp) gp6 hk6
  have n7 := nf.nxt
  have sg := same_upd (o := .dK kvs6) gp6
  have s7 : Sl K (upd G6 p (.dK kvs6)) ((σ1.set 4 (some (.ref p))).set 5 (some v6)) [some book, some dues, some payer, some (.int m), some (.dict es'), some (.list fd)] :=
    ((((s3.mono (n7.g)).set (i := 5) (rv6.mono sg))).add (i := 4) (get_set z4 (by decide)) (.dic upd_same (RpKv.mono sg rk6)))
  refine ⟨upd G6 p (.dK kvs6), _, _, n7.v, s7, htail, fun v8 G8 H8 n8 r8 => ?_⟩
  exact q v8 G8 H8 ((n1.trans (n2.trans n7)).trans n8) r8
end
end Od
end
section
set_option maxHeartbeats 4000000
/-! OdLawLay: the law's own laying. -/
namespace Od
open PySem PySem.Spec PyProof.Rows L2
def lawGo : List PyData → Int → Es → List PyData → Option (List PyData × Es × Int)
  | [], m, es, fd => some (fd, es, m)
  | .str b :: r, m, es, fd => match getE es b with
    | some (.int q) => lawGo r (m - (if m < q then m else q)) (putE es b (.int (q - (if m < q then m else q)))) (if 0 < (if m < q then m else q) then fd ++ [.tuple [.str b, .int (if m < q then m else q)]] else fd)
    | _ => none
  | _ :: _, _, _, _ => none
def m_law_lay : List PyData → Option PyData
  | [.tuple ps, .tuple row, .int m] => if ps.length ≤ 1000 ∧ row.length ≤ 1000 then match pairKv ps with
    | some es0 => match lawGo row m (mergeE [] es0) [] with
      | some (fd, es', m') => some (.tuple [.tuple fd, .dict es', .int m'])
      | none => none
    | none => none
    else none
  | _ => none
abbrev s_law_lay : Stmt := topS 53
theorem sc_law_lay : FnScope ["_law_dues_so", "_law_row_so", "_law_amount_so", "_law_own", "_law_found", "_law_here"] ["_law_dues_so", "_law_row_so", "_law_amount_so"] (defScope s_law_lay) := ⟨rfl, rfl, rfl, by decide +kernel, rfl, by decide +kernel, by decide +kernel⟩
structure LawInv (K : PySem.W.Frag) (a p : Addr) (G0 H0 : Hp) (ds fd : List PyData) (es' : Es) (m' : Int) (i : Nat) (G : Hp) (σ : L2.St) (H : Hp) (kvs : List (Key × V)) (acc : List V) (es : Es) (m : Int) (fi : List PyData) : Prop where
  len : σ.length = 6
  s1 : σ[0]? = some (some (.ref a))
  s4 : σ[4]? = some (some (.ref p))
  s5 : σ[2]? = some (some (.int m))
  n : NxtM [] G0 H0 G H
  ga : G a = none
  ha : H a = some (.dK kvs)
  rk : RpKv K G kvs es
  le : es.length ≤ 1000
  gp : G p = none
  hp : H p = some (.lst acc)
  rl : RpAll K G acc fi
  la : acc.length ≤ i
  go : lawGo (ds.drop i) m es fi = some (fd, es', m')
section
variable {P : Program} {w : World} {K : PySem.W.Frag} {mg : Str → Option Value} {base : Heap}
theorem NxtM.grow {M : List Addr} {G H G1 H1 H2 : Hp} (a : NxtM M G H G1 H1) (h : Same H1 H2) : NxtM M G H G1 H2 := a.trans ⟨fun b u _ e => h b u e, Same.refl _, a.v.trans h, a.m, fun _ _ e => .inl e⟩
theorem NxtM.step0 {G H G1 H1 G2 H2 : Hp} (a : NxtM [] G H G1 H1) (n : Nxt G1 H1 G2 H2) : NxtM [] G H G2 H2 := a.step n fun b hb => by simp at hb
theorem ok_law_lay (T : Bl mg) (F : DefAt K mg "_law_lay" s_law_lay) : DefOk P w K mg base CX0 1 "_law_lay" ["_law_dues_so", "_law_row_so", "_law_amount_so"] (spD K 3 m_law_lay) := by
  refine F.okH (N := ["_law_dues_so", "_law_row_so", "_law_amount_so", "_law_own", "_law_found", "_law_here"]) (ps := ["_law_dues_so", "_law_row_so", "_law_amount_so"]) sc_law_lay (fun _ _ _ _ _ _ us hl => match us, hl with | [_, _, _], _ => rfl) (fun _ _ _ _ _ _ us hl => match us, hl with | [_, _, _], _ => rfl) (fun vs H Q E h => h.1) fun f cdv A outer s H vs Q E hr h => ?_
  refine ⟨_, pss_cons (ps_par (i := 0) (j := 4) rfl sc_law_lay.nd rfl rfl (by decide) rfl rfl (pa_cons (pe_callTy (call_dictT rfl) rfl T.dict boot_dict (pda_cons (pd 0) pda_nil)) (pa_cons (pe_lst pa_nil) pa_nil)) (by rfl))
    (pss_cons (ps_for PassesOwn.never rfl (pdi_seq (pd 1)) (pdg_name (i := 3) sc_law_lay.nd rfl (by first | exact Or.inl rfl | exact Or.inr rfl))
      (pss_cons (ps_set (i := 5) sc_law_lay.nd rfl (by first | exact Or.inl rfl | exact Or.inr rfl) (pd_callB (call_minD rfl) rfl T.min boot_min (pda_cons (pd_dget (hu_of hr) (pd 0) (pd 3)) (pda_cons (pd 2) pda_nil))))
      (pss_cons (ps_if (pdt_cmp op_gtD (pd 5) pd_int) (pss_one (ps_append (i := 4) rfl (pd_tup (pda_cons (pd 3) (pda_cons (pd 5) pda_nil))))) pss_nil)
      (pss_cons (ps_dput (hu_of hr) (pv 0) (pd 3) (pd_op op_subD (pd_dget (hu_of hr) (pd 0) (pd 3)) (pd 5)) (by rfl))
      (pss_one (ps_set (i := 2) sc_law_lay.nd rfl (by first | exact Or.inl rfl | exact Or.inr rfl) (pd_op op_subD (pd 2) (pd 5))))))))
    (pss_one (pds_ret (F := []) (pd_tup (pda_cons (pd_callTy call_tupD rfl T.tuple boot_tuple (pda_cons (pd 4) pda_nil)) (pda_cons (pd 0) (pda_cons (pd 2) pda_nil))))))), ?_⟩
  obtain ⟨hvl, G, as, d, vw, ra, e, q⟩ := h
  unfold m_law_lay at e
  split at e
  rotate_left
  · cases e
  rename_i ps row m
  split at e
  rotate_left
  · cases e
  rename_i hsz
  split at e
  rotate_left
  · cases e
  rename_i es0 hes
  split at e
  rotate_left
  · cases e
  rename_i fd es' m' hgo
  cases e
  cases ra with
  | cons r0 ra =>
  cases ra with
  | cons r1 ra =>
  cases ra with
  | cons r2 ra =>
  cases ra
  cases r2
  rename_i v0 v1
  have s0 : Sl K G (L2.start ["_law_dues_so", "_law_row_so", "_law_amount_so", "_law_own", "_law_found", "_law_here"] [v0, v1, .int m]) [some (.tuple ps), some (.tuple row), some (.int m), none, none, none] :=
    (((Sl.none_ (n := 6) rfl).add (i := 0) rfl r0).add (i := 1) rfl r1).add (i := 2) rfl (.int m)
  refine ⟨G, _, [.tuple ps], vw, s0, rfl, fun vs2 G2 H2 n2 ra2 => ?_⟩
  obtain ⟨v, rfl, rt⟩ := one_rp ra2
  cases rt with
  | @tup ta ys _ hta rys =>
  obtain ⟨bs, kvs, rfl, hp, hkv⟩ := pair_kv rys hes
  refine ⟨ta, bs, kvs, rfl, hta.mono n2.v, paired_imp (fun (p : Addr) (kv : Key × V) (t : TupF G2 p [kV kv.1, kv.2]) => (t.mono n2.v).sq) hp, fun a ha' => ?_⟩
  refine ⟨Nat.zero_le _, fun p hp' => ⟨.ref a, .ref p, rfl, ?_⟩⟩
  have hap : a ≠ p := fun z => by rw [z, upd_same] at hp'; cases hp'
  have hp0 : H2 p = none := by rwa [upd_ne (Ne.symm hap)] at hp'
  have ga2 : G2 a = none := n2.v.free ha'
  have gp2 : G2 p = none := n2.v.free hp0
  have hma : (upd (upd H2 a (.dK (mergeK [] kvs))) p (.lst [])) a = some (.dK (mergeK [] kvs)) := by rw [upd_ne hap, upd_same]
  have hmp : (upd (upd H2 a (.dK (mergeK [] kvs))) p (.lst [])) p = some (.lst []) := upd_same
  have nb : NxtM [] G2 H2 G2 (upd (upd H2 a (.dK (mergeK [] kvs))) p (.lst [])) := ((NxtM.refl n2.v (M := []) fun b hb => by simp at hb).lay ha').lay hp'
  have hl0 : (mergeE [] es0).length ≤ 1000 := by
    have q1 := mergeE_le es0 []
    have q2 := pairKv_len hes
    rw [List.length_nil] at q1
    omega
  have rk0 : RpKv K G2 (mergeK [] kvs) (mergeE [] es0) := RpKv.merge .nil hkv
  refine ⟨G2, (List.replicate 6 none).set 1 (some (.tuple row)), row, nb.v, (Sl.none_ rfl).add rfl (r1.mono n2.g), rfl, fun J G1 H1 n1 wk => ?_⟩
  refine for_hand (fun i G3 σ H3 => ∃ kvs acc es m fi, LawInv K a p G2 H2 row fd es' m' i G3 σ H3 kvs acc es m fi ∧ Same G1 G3) wk ?_ ?_ ?_ ?_
  · exact ⟨_, [], _, m, [], ⟨rfl, rfl, rfl, rfl, nb.step0 n1, n1.mask ga2 hma, n1.h _ _ hma, RpKv.mono n1.g rk0, hl0, n1.mask gp2 hmp, n1.h _ _ hmp, .nil, Nat.le_refl _, hgo⟩, Same.refl _⟩
  · rintro i G3 σ H3 ⟨kvs, acc, es, m, fi, I, s⟩
    exact ⟨s, I.n.v⟩
  · rintro i d G3 σ H3 hd ⟨kvs2, acc, es2, m2, fi, I, sg⟩ x G4 H4 n4 rx
    have hdrop : row.drop i = d :: row.drop (i + 1) := by
      obtain ⟨hlt, e⟩ := List.getElem?_eq_some_iff.mp hd
      rw [List.drop_eq_getElem_cons hlt, e]
    have go := I.go
    rw [hdrop] at go
    cases d with
    | str b =>
      unfold lawGo at go
      cases rx
      cases hg : getE es2 b with
      | none => rw [hg] at go; cases go
      | some qd =>
      cases qd with
      | int qv =>
        rw [hg] at go
        dsimp only at go
        have ha3 := n4.h _ _ I.ha
        have hp3 := n4.h _ _ I.hp
        have ga3 : G4 a = none := n4.mask I.ga I.ha
        have gp3 : G4 p = none := n4.mask I.gp I.hp
        have rk3 := RpKv.mono n4.g I.rk
        have nn := I.n.step0 n4
        refine ⟨G4, List.replicate 6 none, .str b, _, n4.v, Sl.none_ I.len, .str b, rfl, fun σ2 s2 a2 => ?_⟩
        have l2 : σ2.length = 6 := by rw [a2.1]; exact I.len
        have z1 : σ2[0]? = some (some (.ref a)) := by rw [a2.2 0 (by decide)]; exact I.s1
        have z4 : σ2[4]? = some (some (.ref p)) := by rw [a2.2 4 (by decide)]; exact I.s4
        have z5 : σ2[2]? = some (some (.int m2)) := by rw [a2.2 2 (by decide)]; exact I.s5
        obtain ⟨vb, z3, hvb⟩ := s2.at_ 3 (.str b) rfl
        cases hvb
        have vo := same_open n4.v ha3
        have so : Sl K (upd G4 a (.dK kvs2)) σ2 ((((List.replicate 6 none).set 2 (some (.int m2))).set 3 (some (.str b))).set 0 (some (.dict es2))) :=
          (((Sl.none_ l2).add z5 (.int m2)).add z3 (.str b)).add z1 (.dic upd_same (RpKv.mono (same_upd ga3) rk3))
        generalize hmu : (if m2 < qv then m2 else qv) = mu at go
        refine liE_open (d := .int mu) vo so (by
          have e1 : d2 dgetD (dVar 0) (dVar 3) ((((List.replicate 6 none).set 2 (some (.int m2))).set 3 (some (.str b))).set 0 (some (.dict es2))) = some (.int qv) := hg
          unfold dN dArgs
          rw [e1]
          show some (PyData.int (if m2 < qv then m2 else qv)) = _
          rw [hmu]) rfl fun v H5 h5 rv => ?_
        have rv0 := rv G4
        cases rv0
        have ha4 := h5 _ _ ha3
        have hp4 := h5 _ _ hp3
        have n5 : NxtM [] G2 H2 G4 H5 := nn.grow h5
        have w1 : (σ2.set 5 (some (.int mu)))[0]? = some (some (.ref a)) := get_set z1 (by decide)
        have w4 : (σ2.set 5 (some (.int mu)))[4]? = some (some (.ref p)) := get_set z4 (by decide)
        have w5 : (σ2.set 5 (some (.int mu)))[2]? = some (some (.int m2)) := get_set z5 (by decide)
        have w3 : (σ2.set 5 (some (.int mu)))[3]? = some (some (.str b)) := get_set z3 (by decide)
        have w6 : (σ2.set 5 (some (.int mu)))[5]? = some (some (.int mu)) := List.getElem?_set_self (by omega)
        have wl : (σ2.set 5 (some (.int mu))).length = 6 := by rw [List.length_set]; exact l2
        -- what follows the if
        have cont : ∀ (G6 H6 : Hp) (acc6 : List V), NxtM [] G2 H2 G6 H6 → Same G4 G6 → G6 a = none → H6 a = some (.dK kvs2) → G6 p = none → H6 p = some (.lst acc6) → RpAll K G6 acc6 (if 0 < mu then fi ++ [.tuple [.str b, .int mu]] else fi) → acc6.length ≤ i + 1 →
            tSeq (sDPut (tVar 0) (liE K (dVar 3)) (liE K (d2 subD (d2 dgetD (dVar 0) (dVar 3)) (dVar 5)))) (tAsg (liE K (d2 subD (dVar 2) (dVar 5))) (gName 2))
              { nx := fun σ H => ∃ G, ∃ kvs acc es m fi, LawInv K a p G2 H2 row fd es' m' (i + 1) G σ H kvs acc es m fi ∧ Same G1 G, rt := Q, bk := fun _ _ => True, ct := fun _ _ => True } (σ2.set 5 (some (V.int mu))) H6 := by
          intro G6 H6 acc6 n6 g6 ga6 ha6 gp6 hp6 rl6 la6
          have rk6 := RpKv.mono g6 rk3
          have vo7 := same_open n6.v ha6
          have so7 : Sl K (upd G6 a (.dK kvs2)) (σ2.set 5 (some (V.int mu))) ((((List.replicate 6 none).set 5 (some (.int mu))).set 3 (some (.str b))).set 0 (some (.dict es2))) :=
            (((Sl.none_ wl).add w6 (.int mu)).add w3 (.str b)).add w1 (.dic upd_same (RpKv.mono (same_upd ga6) rk6))
          refine liE_open (d := .int (qv - mu)) vo7 so7 (by
            have e1 : d2 dgetD (dVar 0) (dVar 3) ((((List.replicate 6 none).set 5 (some (.int mu))).set 3 (some (.str b))).set 0 (some (.dict es2))) = some (.int qv) := hg
            unfold d2 at e1 ⊢
            rw [e1]
            rfl) rfl fun v8 H8 h8 rv8 => ?_
          have rv8' := rv8 G6
          cases rv8'
          have ha8 := h8 _ _ ha6
          have hp8 := h8 _ _ hp6
          have n8 := n6.grow h8
          refine ⟨.ref a, w1, G6, (List.replicate 6 none).set 3 (some (.str b)), .str b, n8.v, (Sl.none_ wl).add w3 (.str b), rfl, fun v9 G9 H9 n9 r9 => ?_⟩
          cases r9
          have ha9 := n9.h _ _ ha8
          have hp9 := n9.h _ _ hp8
          have ga9 : G9 a = none := n9.mask ga6 ha8
          have gp9 : G9 p = none := n9.mask gp6 hp8
          have nn9 := n8.step0 n9
          have rk9 := RpKv.mono n9.g rk6
          refine ⟨a, _, rfl, DPut.k (k := .inr b) ha9 (by rw [rk9.length]; exact small1000 I.le), ?_⟩
          have rk10 : RpKv K G9 (putK kvs2 (.inr b) (.int (qv - mu))) (putE es2 b (.int (qv - mu))) := rk9.put (.int _)
          have ha10 : (upd H9 a (.dK (putK kvs2 (.inr b) (.int (qv - mu))))) a = some (.dK (putK kvs2 (.inr b) (.int (qv - mu)))) := upd_same
          have hp10 : (upd H9 a (.dK (putK kvs2 (.inr b) (.int (qv - mu))))) p = some (.lst acc6) := by rw [upd_ne (Ne.symm hap)]; exact hp9
          have n10 : NxtM [] G2 H2 G9 (upd H9 a (.dK (putK kvs2 (.inr b) (.int (qv - mu))))) := nn9.write (.inr ha') ga9
          refine liE_open (d := .int (m2 - mu)) n10.v (((Sl.none_ (n := 6) wl).add w5 (.int m2)).add w6 (.int mu)) rfl rfl fun v11 H11 h11 rv11 => ?_
          have rv11' := rv11 G9
          cases rv11'
          exact ⟨G9, _, acc6, _, m2 - mu, _, ⟨by rw [List.length_set]; exact wl, get_set w1 (by decide), get_set w4 (by decide), List.getElem?_set_self (by omega), n10.grow h11, ga9, h11 _ _ ha10, rk10, by rw [putE_len hg]; exact I.le, gp9, h11 _ _ hp10, rl6.mono n9.g, la6, go⟩, sg.trans (n4.g.trans (g6.trans n9.g))⟩
        refine liT_open (ρ := (List.replicate 6 none).set 5 (some (.int mu))) (b := decide (0 < mu)) n5.v ((Sl.none_ wl).add w6 (.int mu)) rfl fun H6 h6 => ?_
        have ha5 := h6 _ _ ha4
        have hp5 := h6 _ _ hp4
        have n6 := n5.grow h6
        by_cases hpos : 0 < mu
        · rw [show decide (0 < mu) = true from decide_eq_true hpos]
          refine iteT ?_
          refine ⟨p, w4, ⟨_, hp5⟩, G4, ((List.replicate 6 none).set 3 (some (.str b))).set 5 (some (.int mu)), .tuple [.str b, .int mu], n6.v, ((Sl.none_ wl).add w3 (.str b)).add w6 (.int mu), rfl, fun v6 G7 H7 n7 r7 => ?_⟩
          have r7' : Rp K G7 v6 (.tuple [.str b, .int mu]) := r7
          have ha7 := n7.h _ _ ha5
          have hp7 := n7.h _ _ hp5
          have gp7 : G7 p = none := n7.mask gp3 hp5
          have ga7 : G7 a = none := n7.mask ga3 ha5
          have nn7 := n6.step0 n7
          have rl7 := I.rl.mono (n4.g.trans n7.g)
          have hlen : acc.length < sizeLine := by
            have q1 := I.la
            have q2 := (List.getElem?_eq_some_iff.mp hd).1
            exact Nat.lt_of_lt_of_le (show acc.length < 1000001 by omega) (by rw [sizeLine_eq]; decide)
          refine app_in hp7 hlen ?_
          refine cont G7 _ (acc ++ [v6]) (nn7.write (.inr hp0) gp7) n7.g ga7 (by rw [upd_ne hap]; exact ha7) gp7 upd_same ?_ (by rw [List.length_append]; exact Nat.succ_le_succ I.la)
          rw [if_pos hpos]
          exact rl7.append (.cons r7' .nil)
        · rw [show decide (0 < mu) = false from decide_eq_false hpos]
          refine iteF ?_
          refine cont G4 H6 acc n6 (Same.refl _) ga3 ha5 gp3 hp5 ?_ (Nat.le_succ_of_le I.la)
          rw [if_neg hpos]
          exact I.rl.mono n4.g
      | _ => rw [hg] at go; cases go
    | _ =>
      unfold lawGo at go
      cases go
  · rintro G3 σ H3 ⟨kvs2, acc, es2, m2, fi, I, sg⟩
    have go := I.go
    rw [List.drop_length] at go
    cases go
    have n5 := I.n.publish (p := p) (o := .lst acc) hp0 (by simp) I.gp I.hp
    have sg5 := same_upd (o := .lst acc) I.gp
    have ga5 : (upd G3 p (.lst acc)) a = none := by rw [upd_ne hap]; exact I.ga
    have n6 := n5.publish (p := a) (o := .dK kvs2) ha' (by simp) ga5 I.ha
    have sg6 := same_upd (o := .dK kvs2) ga5
    have hpp : (upd (upd G3 p (.lst acc)) a (.dK kvs2)) p = some (.lst acc) := by rw [upd_ne (Ne.symm hap), upd_same]
    have s7 : Sl K (upd (upd G3 p (.lst acc)) a (.dK kvs2)) σ ((((List.replicate 6 none).set 4 (some (.list fd))).set 0 (some (.dict es'))).set 2 (some (.int m'))) :=
      (((Sl.none_ I.len).add I.s4 (.lst hpp (I.rl.mono (sg5.trans sg6)))).add I.s1 (.dic upd_same (RpKv.mono (sg5.trans sg6) I.rk))).add I.s5 (.int _)
    refine ⟨_, _, .rt (.tuple [.tuple fd, .dict es', .int m']), n6.v, s7, rfl, fun v8 G8 H8 n8 r8 => ?_⟩
    exact q v8 G8 H8 ((n2.trans n6.nxt).trans n8) r8
end
end Od
end
section
set_option maxHeartbeats 4000000
/-! OdFew: fewest_steps. -/
namespace Od
open PySem PySem.Spec PyProof.Rows L2
def fsVal : DE := dIf (dB (d2 eqD (dVar 6) (dVar 3))) (d2 addD (d2 ixD (dVar 4) (dVar 5)) (dC (.int 1))) (dN maxD (dArgs [d2 ixD (dVar 4) (d2 addD (dVar 5) (dC (.int 1))), d2 ixD (dVar 2) (dVar 5)]))
/-- one row of the table -/
def fsIn (before : List PyData) (name : PyData) : List PyData → Nat → List PyData → Option (List PyData)
  | [], _, l => some l
  | own :: r, j, l => match fsVal [none, none, some (.list l), some name, some (.list before), some (.int (j : Nat)), some own] with
    | some (.int v) => if j + 1 < l.length then fsIn before name r (j + 1) (l.set (j + 1) (.int v)) else none
    | _ => none
def fsOut (other : List PyData) : List PyData → List PyData → Option (List PyData)
  | [], l => some l
  | name :: r, l => match fsIn l name other 0 l with
    | some l' => fsOut other r l'
    | none => none
def itemsOf : PyData → Option (List PyData)
  | .list ds => some ds
  | .tuple ds => some ds
  | _ => none
def fsEnd : DS := dRet (d2 subD (d2 addD (dN lenD (dArgs [dVar 0])) (dN lenD (dArgs [dVar 1]))) (d2 mulD (dC (.int 2)) (d2 ixD (dVar 2) (d1 negD (dC (.int 1))))))
def m_fewest_steps : List PyData → Option PyData
  | [one, other] => match itemsOf one with
    | some xs => match itemsOf other with
      | some ys => if xs.length ≤ 1000 ∧ ys.length ≤ 1000 then match fsOut ys xs (List.replicate (ys.length + 1) (.int 0)) with
        | some l => match fsEnd [some one, some other, some (.list l), none, none, none, none] with
          | some (.rt d) => some d
          | _ => none
        | none => none
        else none
      | none => none
    | none => none
  | _ => none
abbrev s_fewest_steps : Stmt := topS 37
theorem sc_fewest_steps : FnScope ["one", "other", "longest", "name", "before", "place", "own"] ["one", "other"] (defScope s_fewest_steps) := ⟨rfl, rfl, rfl, by decide +kernel, rfl, by decide +kernel, by decide +kernel⟩
theorem RpAll.set {K : PySem.W.Frag} {G : Hp} : ∀ {vs : List V} {ds : List PyData} (i : Nat) {v : V} {d : PyData}, RpAll K G vs ds → Rp K G v d → RpAll K G (vs.set i v) (ds.set i d)
  | _, _, _, _, _, .nil, _ => .nil
  | _, _, 0, _, _, .cons h r, h' => .cons h' r
  | _, _, i + 1, _, _, .cons h r, h' => .cons h (RpAll.set i r h')
theorem fsIn_len {before : List PyData} {name : PyData} : ∀ {r : List PyData} {j : Nat} {l l' : List PyData}, fsIn before name r j l = some l' → l'.length = l.length
  | [], _, _, _, h => by cases h; rfl
  | own :: r, j, l, l', h => by
    unfold fsIn at h
    split at h
    · split at h
      · rw [fsIn_len h, List.length_set]
      · cases h
    · cases h
structure FewInv (K : PySem.W.Frag) (p : Addr) (G0 H0 : Hp) (one other : PyData) (G : Hp) (σ : L2.St) (H : Hp) (ρ : DEnv) (xs : List V) (l : List PyData) : Prop where
  sl : Sl K G σ ρ
  s2 : σ[2]? = some (some (.ref p))
  n : NxtM [] G0 H0 G H
  gp : G p = none
  hp : H p = some (.lst xs)
  rl : RpAll K G xs l
section
variable {P : Program} {w : World} {K : PySem.W.Frag} {mg : Str → Option Value} {base : Heap}
theorem ok_fewest_steps (T : Bl mg) (F : DefAt K mg "fewest_steps" s_fewest_steps) : DefOk P w K mg base CX0 1 "fewest_steps" ["one", "other"] (spD K 2 m_fewest_steps) := by
  refine F.okH (N := ["one", "other", "longest", "name", "before", "place", "own"]) (ps := ["one", "other"]) sc_fewest_steps (fun _ _ _ _ _ _ us hl => match us, hl with | [_, _], _ => rfl) (fun _ _ _ _ _ _ us hl => match us, hl with | [_, _], _ => rfl) (fun vs H Q E h => h.1) fun f cdv A outer s H vs Q E hr h => ?_
  refine ⟨_, pss_cons (ps_set (i := 2) sc_fewest_steps.nd rfl (by first | exact Or.inl rfl | exact Or.inr rfl) (pe_op op_rep (pe_lst (pa_cons pe_int pa_nil)) (pd_op op_addD (pd_callB call_lenDD rfl T.len boot_len (pda_cons (pd 1) pda_nil)) pd_int)))
    (pss_cons (ps_for PassesOwn.never rfl (pdi_seq (pd 0)) (pdg_name (i := 3) sc_fewest_steps.nd rfl (by first | exact Or.inl rfl | exact Or.inr rfl))
      (pss_cons (ps_set (i := 4) sc_fewest_steps.nd rfl (by first | exact Or.inl rfl | exact Or.inr rfl) (pe_callTy call_list_of rfl T.list boot_list (pa_cons (pv 2) pa_nil)))
      (pss_one (ps_for PassesOwn.never rfl (pdi_enumA rfl T.enumerate (pd 1)) (pdg_tupW rfl (pdgs_cons (pdg_name (i := 5) sc_fewest_steps.nd rfl (by first | exact Or.inl rfl | exact Or.inr rfl)) (pdgs_cons (pdg_name (i := 6) sc_fewest_steps.nd rfl (by first | exact Or.inl rfl | exact Or.inr rfl)) pdgs_nil)))
        (pss_one (ps_asg (pd_if (pdt_cmp (op_eqDD hr.units) (pd 6) (pd 3)) (pd_op op_addD (pd_ix ix_D (pd 4) (pd 5)) pd_int) (pd_callB (call_maxD rfl) rfl T.max boot_max (pda_cons (pd_ix ix_D (pd 4) (pd_op op_addD (pd 5) pd_int)) (pda_cons (pd_ix ix_D (pd 2) (pd 5)) pda_nil))))
          (pg_sub (pv 2) (pd_op op_addD (pd 5) pd_int) set_list)))))))
    (pss_one (pds_ret (F := []) (pd_op op_subD (pd_op op_addD (pd_callB call_lenDD rfl T.len boot_len (pda_cons (pd 0) pda_nil)) (pd_callB call_lenDD rfl T.len boot_len (pda_cons (pd 1) pda_nil))) (pd_op op_mulD pd_int (pd_ix ix_D (pd 2) (pd_un un_negD pd_int))))))), ?_⟩
  obtain ⟨hvl, G, as, d, vw, ra, e, q⟩ := h
  unfold m_fewest_steps at e
  split at e
  rotate_left
  · cases e
  rename_i one other
  split at e
  rotate_left
  · cases e
  rename_i xs hxs
  split at e
  rotate_left
  · cases e
  rename_i ys hys
  split at e
  rotate_left
  · cases e
  rename_i hsz
  split at e
  rotate_left
  · cases e
  rename_i lf hgo
  split at e
  rotate_left
  · cases e
  rename_i dd hend
  cases e
  cases ra with
  | cons r0 ra =>
  cases ra with
  | cons r1 ra =>
  cases ra
  rename_i v0 v1
  have s0 : Sl K G (L2.start ["one", "other", "longest", "name", "before", "place", "own"] [v0, v1]) [some one, some other, none, none, none, none, none] :=
    ((Sl.none_ (n := 7) rfl).add (i := 0) rfl r0).add (i := 1) rfl r1
  have hlen : dN lenD (dArgs [dVar 1]) [some one, some other, none, none, none, none, none] = some (.int (ys.length : Nat)) := by
    show lenD [other] = _
    cases other <;> first | (cases hys; rfl) | (cases hys)
  refine ⟨by show 1 ≤ sizeLine; decide, fun b hb => ?_⟩
  have vb : Same G (upd H b (.lst [.int 0])) := vw.trans (same_upd hb)
  refine ⟨G, _, .int ((ys.length : Nat) + 1), vb, s0, (by
    unfold d2
    rw [hlen]
    rfl), fun v2 G2 H2 n2 r2 => ?_⟩
  cases r2
  have hb2 : H2 b = some (.lst [.int 0]) := n2.h _ _ upd_same
  refine ⟨b, (ys.length : Nat) + 1, [.int 0], rfl, rfl, hb2, by omega, by omega, ?_, fun p hp => ?_⟩
  · have e1 : ([V.int 0] : List V).length * ((ys.length : Int) + 1).toNat = ys.length + 1 := by
      show 1 * ((ys.length : Int) + 1).toNat = _
      omega
    rw [e1]
    exact small_line (by omega)
  have hp0 : H p = none := by
    cases z : H p with
    | none => rfl
    | some u =>
      have hpb : p ≠ b := ne_of_none z hb
      have := n2.h p u (by rw [upd_ne hpb]; exact z)
      rw [hp] at this
      cases this
  have eflat : (List.replicate ((ys.length : Int) + 1).toNat ([V.int 0] : List V)).flatten = List.replicate (ys.length + 1) (V.int 0) := by
    have e1 : ((ys.length : Int) + 1).toNat = ys.length + 1 := by omega
    rw [e1]
    generalize ys.length + 1 = n
    induction n with
    | zero => rfl
    | succ n ih => rw [List.replicate_succ, List.replicate_succ, List.flatten_cons, ih] <;> rfl
  have nb : NxtM [] G H G (upd H b (.lst [.int 0])) := (NxtM.refl vw (M := []) fun b hb => by simp at hb).lay hb
  have n3 : NxtM [] G H G2 H2 := nb.step0 n2
  have gp2 : G2 p = none := n2.v.free hp
  have n4 := n3.lay (o := .lst (List.replicate ((ys.length : Int) + 1).toNat ([V.int 0] : List V)).flatten) hp
  have rl0 : RpAll K G2 (List.replicate ((ys.length : Int) + 1).toNat ([V.int 0] : List V)).flatten (List.replicate (ys.length + 1) (.int 0)) := by
    rw [eflat]
    generalize ys.length + 1 = n
    induction n with
    | zero => exact .nil
    | succ n ih => rw [List.replicate_succ, List.replicate_succ]; exact .cons (.int 0) ih
  have s4 : Sl K G2 ((L2.start ["one", "other", "longest", "name", "before", "place", "own"] [v0, v1]).set 2 (some (.ref p))) [some one, some other, none, none, none, none, none] := (s0.mono n2.g).forget (i := 2)
  have itm : dItems (dVar 0) [some one, some other, none, none, none, none, none] = some xs := by
    show (match some one with | some (.list ds) => some ds | some (.tuple ds) => some ds | _ => none) = _
    cases one <;> first | exact hxs | (cases hxs)
  refine ⟨G2, _, xs, n4.v, s4, itm, fun J G5 H5 n5 wk => ?_⟩
  refine for_hand (fun i G6 σ H6 => ∃ ws l, FewInv K p G H one other G6 σ H6 [some one, some other, none, none, none, none, none] ws l ∧ l.length = ys.length + 1 ∧ fsOut ys (xs.drop i) l = some lf ∧ Same G5 G6) wk ?_ ?_ ?_ ?_
  · exact ⟨_, _, ⟨s4.mono n5.g, rfl, n4.step0 n5, n5.mask gp2 upd_same, n5.h _ _ upd_same, rl0.mono n5.g⟩, List.length_replicate, hgo, Same.refl _⟩
  · rintro i G6 σ H6 ⟨ws, l, I, _, _, s⟩
    exact ⟨s, I.n.v⟩
  · rintro i name G6 σ H6 hd ⟨ws, l, I, ll, go, sg⟩ x G7 H7 n7 rx
    have hdrop : xs.drop i = name :: xs.drop (i + 1) := by
      obtain ⟨hlt, e⟩ := List.getElem?_eq_some_iff.mp hd
      rw [List.drop_eq_getElem_cons hlt, e]
    rw [hdrop] at go
    unfold fsOut at go
    cases hin : fsIn l name ys 0 l with
    | none => rw [hin] at go; cases go
    | some l2 =>
    rw [hin] at go
    dsimp only at go
    refine ⟨G7, _, name, _, n7.v, I.sl.mono n7.g, rx, rfl, fun σ2 s2 a2 => ?_⟩
    have z2 : σ2[2]? = some (some (.ref p)) := by rw [a2.2 2 (by decide)]; exact I.s2
    have hp7 := n7.h _ _ I.hp
    have gp7 : G7 p = none := n7.mask I.gp I.hp
    have nn7 := I.n.step0 n7
    have rl7 := I.rl.mono n7.g
    -- before = list(longest)
    refine ⟨.ref p, z2, p, ws, rfl, .inl (SqL.of hp7), fun c hc => ?_⟩
    have gc : G7 c = none := n7.v.free hc
    have hcp : c ≠ p := fun z => by rw [z, hp7] at hc; cases hc
    have n8 : Nxt G7 H7 (upd G7 c (.lst ws)) (upd H7 c (.lst ws)) := Nxt.upd n7.v hc
    have sg8 := same_upd (o := .lst ws) gc
    have hp8 : (upd H7 c (.lst ws)) p = some (.lst ws) := n8.h _ _ hp7
    have gp8 : (upd G7 c (.lst ws)) p = none := by rw [upd_ne (Ne.symm hcp)]; exact gp7
    have s8 : Sl K (upd G7 c (.lst ws)) (σ2.set 4 (some (.ref c))) [some one, some other, none, some name, some (.list l), none, none] := (s2.mono sg8).set (i := 4) (.lst upd_same (rl7.mono sg8))
    have itm2 : dEnumA (dVar 1) [some one, some other, none, some name, some (.list l), none, none] = some (enumOf 0 ys) := by
      show (match some other with | some (.list ds) => some (enumOf 0 ds) | some (.tuple ds) => some (enumOf 0 ds) | _ => none) = _
      cases other <;> first | (cases hys; rfl) | (cases hys)
    refine ⟨_, _, enumOf 0 ys, n8.v, s8, itm2, fun J2 G9 H9 n9 wk2 => ?_⟩
    have hp9 := n9.h _ _ hp8
    have gp9 : G9 p = none := n9.mask gp8 hp8
    refine for_hand (fun j G10 σ H10 => ∃ ws l1, FewInv K p G H one other G10 σ H10 [some one, some other, none, some name, some (.list l), none, none] ws l1 ∧ l1.length = ys.length + 1 ∧ fsIn l name (ys.drop j) j l1 = some l2 ∧ Same G9 G10) wk2 ?_ ?_ ?_ ?_
    · exact ⟨ws, l, ⟨s8.mono n9.g, get_set z2 (by decide), (nn7.step0 n8).step0 n9, gp9, hp9, rl7.mono (sg8.trans n9.g)⟩, ll, hin, Same.refl _⟩
    · rintro j G10 σ H10 ⟨ws, l1, I2, _, _, s⟩
      exact ⟨s, I2.n.v⟩
    · rintro j dj G10 σ10 H10 hdj ⟨ws2, l1, I2, ll1, go1, sg1⟩ x11 G11 H11 n11 rx11
      obtain ⟨own, hown, rfl⟩ := enum_get hdj
      have hdrop2 : ys.drop j = own :: ys.drop (j + 1) := by
        obtain ⟨hlt, e⟩ := List.getElem?_eq_some_iff.mp hown
        rw [List.drop_eq_getElem_cons hlt, e]
      rw [hdrop2] at go1
      unfold fsIn at go1
      split at go1
      rotate_left
      · cases go1
      rename_i vv hval
      split at go1
      rotate_left
      · cases go1
      rename_i hjl
      have hp11 := n11.h _ _ I2.hp
      have gp11 : G11 p = none := n11.mask I2.gp I2.hp
      have nn11 := I2.n.step0 n11
      have rl11 := I2.rl.mono n11.g
      refine ⟨G11, _, _, [some one, some other, none, some name, some (.list l), some (.int ((0 + j : Nat) : Int)), some own], n11.v, I2.sl.mono n11.g, rx11, rfl, fun σ12 s12 a12 => ?_⟩
      have z12 : σ12[2]? = some (some (.ref p)) := by rw [a12.2 2 (by decide)]; exact I2.s2
      rw [Nat.zero_add] at s12
      have vo := same_open n11.v hp11
      have sgo := same_upd (o := .lst ws2) gp11
      have so : Sl K (upd G11 p (.lst ws2)) σ12 [some one, some other, some (.list l1), some name, some (.list l), some (.int (j : Nat)), some own] := (s12.mono sgo).add (i := 2) z12 (.lst upd_same (rl11.mono sgo))
      refine liE_open (d := .int vv) vo so hval rfl fun v13 H13 h13 rv13 => ?_
      have rv := rv13 G11
      cases rv
      have hp13 := h13 _ _ hp11
      have n13 := nn11.grow h13
      refine ⟨.ref p, z12, ?_⟩
      refine liE_open (G := G11) (d := .int ((j : Nat) + 1)) n13.v s12 rfl rfl fun v14 H14 h14 rv14 => ?_
      have rv' := rv14 G11
      cases rv'
      have hp14 := h14 _ _ hp13
      have n14 := n13.grow h14
      have lw : ws2.length = l1.length := rl11.length
      refine ⟨p, ws2, (j : Nat) + 1, j + 1, rfl, rfl, hp14, ?_, ?_⟩
      · unfold ixN
        rw [if_pos (by omega), if_pos (by omega)]
        congr 1
      · refine ⟨G11, ws2.set (j + 1) (.int vv), l1.set (j + 1) (.int vv), ⟨s12.weak rfl fun i d h => ?_, z12, n14.write (.inr hp0) gp11, gp11, upd_same, rl11.set (j + 1) (.int vv)⟩, by rw [List.length_set]; exact ll1, go1, sg1.trans n11.g⟩
        rcases i with _ | _ | _ | _ | _ | _ | _ | i <;> first | exact h | (cases h; done) | (simp at h; done)
    · rintro G10 σ10 H10 ⟨ws2, l1, I2, ll1, go1, sg1⟩
      rw [enum_len, List.drop_length] at go1
      cases go1
      refine ⟨G10, ws2, _, ⟨I2.sl.weak rfl fun i d h => ?_, I2.s2, I2.n, I2.gp, I2.hp, I2.rl⟩, ll1, go, sg.trans (n7.g.trans (sg8.trans (n9.g.trans sg1)))⟩
      rcases i with _ | _ | _ | _ | _ | _ | _ | i <;> first | exact h | (cases h; done) | (simp at h; done)
  · rintro G6 σ H6 ⟨ws, l, I, ll, go, sg⟩
    rw [List.drop_length] at go
    cases go
    have n7 := I.n.publish (p := p) (o := .lst ws) hp0 (by simp) I.gp I.hp
    have sg7 := same_upd (o := .lst ws) I.gp
    have s7 : Sl K (upd G6 p (.lst ws)) σ [some one, some other, some (.list lf), none, none, none, none] := (I.sl.mono sg7).add (i := 2) I.s2 (.lst upd_same (I.rl.mono sg7))
    refine ⟨_, _, .rt d, n7.v, s7, hend, fun v8 G8 H8 n8 r8 => ?_⟩
    exact q v8 G8 H8 (n7.nxt.trans n8) r8
end
end Od
end
section
set_option maxHeartbeats 4000000
/-! OdAll: all_lists. -/
namespace Od
open PySem PySem.Spec PyProof.Rows L2
def alLc : DE := dLc2 (dItems (dVar 2)) (tgN 3) dYes (dItems (dVar 0)) (tgN 4) (dB (d2 notInD (dVar 4) (dVar 3))) (dTupA (dStar (dVar 3) (dConsA (dVar 4) (fun _ => some [])))) [3, 4] [4]
def alGo (names : PyData) : Nat → List PyData → List PyData → Option (List PyData)
  | 0, _, _ => none
  | _ + 1, [], found => some found
  | n + 1, last, found => match alLc [some names, none, some (.list last), none, none] with
    | some (.list l2) => if found.length + l2.length ≤ 1000000 then alGo names n l2 (found ++ l2) else none
    | _ => none
def m_all_lists : List PyData → Option PyData
  | [names] => match alGo names 10 [.tuple []] [.tuple []] with
    | some f => sortL f
    | none => none
  | _ => none
abbrev s_all_lists : Stmt := topS 38
theorem sc_all_lists : FnScope ["names", "found", "last", "row", "name"] ["names"] (defScope s_all_lists) := ⟨rfl, rfl, rfl, by decide +kernel, rfl, by decide +kernel, by decide +kernel⟩
structure AllInv (K : PySem.W.Frag) (p : Addr) (G0 H0 : Hp) (names : PyData) (G : Hp) (σ : L2.St) (H : Hp) (xs : List V) (last found : List PyData) : Prop where
  sl : Sl K G σ [some names, none, some (.list last), none, none]
  s1 : σ[1]? = some (some (.ref p))
  n : NxtM [] G0 H0 G H
  gp : G p = none
  hp : H p = some (.lst xs)
  rl : RpAll K G xs found
section
variable {P : Program} {w : World} {K : PySem.W.Frag} {mg : Str → Option Value} {base : Heap}
theorem ok_all_lists (T : Bl mg) (F : DefAt K mg "all_lists" s_all_lists) : DefOk P w K mg base CX0 1 "all_lists" ["names"] (spD K 1 m_all_lists) := by
  refine F.okH (N := ["names", "found", "last", "row", "name"]) (ps := ["names"]) sc_all_lists (fun _ _ _ _ _ _ us hl => match us, hl with | [_], _ => rfl) (fun _ _ _ _ _ _ us hl => match us, hl with | [_], _ => rfl) (fun vs H Q E h => h.1) fun f cdv A outer s H vs Q E hr h => ?_
  refine ⟨_, pss_cons (ps_par (i := 1) (j := 2) rfl sc_all_lists.nd rfl rfl (by decide) rfl rfl (pa_cons (pe_lst (pda_cons (pd_tup pda_nil) pda_nil)) (pa_cons (pd_lst (pda_cons (pd_tup pda_nil) pda_nil)) pa_nil)) (by rfl))
    (pss_cons (ps_while PassesOwn.never (pdt_cmp op_gtD (pd_callB call_lenDD rfl T.len boot_len (pda_cons (pd 2) pda_nil)) pd_int)
      (pss_cons (pds_setLc2 (F := [1]) (i := 2) (own := [("row", 3), ("name", 4)]) (vs1 := [4]) (R1 := Rp K) (tgs := [3]) (tgs1 := [4]) rfl sc_all_lists.nd rfl rfl (sw_true rfl rfl rfl (by decide +kernel)) (pdi_seq (pd 2)) (blkOk_by (own := [("row", 3), ("name", 4)]) (N := ["names", "found", "last", "row", "name"]) (sc := (defScope s_all_lists)) (by decide +kernel)) (by decide) (by decide) (by decide) (fun _ _ _ _ _ => (pdg_name (i := 3) sc_all_lists.nd rfl (by first | exact Or.inl rfl | exact Or.inr rfl))) (fun _ _ _ _ _ => pdts_nil) (fun _ _ _ _ _ => (pdi_seq (pd 0))) (fun _ _ _ _ _ => (pdg_name (i := 4) sc_all_lists.nd rfl (by first | exact Or.inl rfl | exact Or.inr rfl))) (fun _ _ _ _ _ => (pdts_one (pdt_cmp op_notInD (pd 4) (pd 3)))) (fun _ _ _ _ _ => (pd_tupS (pdas_star (pd 3) (pdas_cons (pd 4) pdas_nil)))))
      (pss_one (ps_expr (pe_bm PySem.F.plainAttrs_list PySem.F.slot_list_extend PySem.F.type_list_extend mt_extend (pv 1) (pa_cons (pv 2) pa_nil))))))
    (pss_one (pds_ret (F := []) (pd_callB (call_sortD hr.units) rfl T.sorted boot_sorted (pda_cons (pd 1) pda_nil))))), ?_⟩
  obtain ⟨hvl, G, as, d, vw, ra, e, q⟩ := h
  unfold m_all_lists at e
  split at e
  rotate_left
  · cases e
  rename_i names
  split at e
  rotate_left
  · cases e
  rename_i ff hgo
  cases ra with
  | cons r0 ra =>
  cases ra
  rename_i v0
  have s0 : Sl K G (L2.start ["names", "found", "last", "row", "name"] [v0]) [some names, none, none, none, none] := (Sl.none_ (n := 5) rfl).add (i := 0) rfl r0
  refine ⟨G, _, [.tuple []], vw, s0, rfl, fun vs1 G1 H1 n1 r1 => ⟨by rw [r1.length]; show 1 ≤ sizeLine; decide, fun p hp => ?_⟩⟩
  have hp0 : H p = none := n1.h.free hp
  have gp1 : G1 p = none := n1.v.free hp
  have n2 : NxtM [] G H G1 (upd H1 p (.lst vs1)) := ((NxtM.refl vw (M := []) fun b hb => by simp at hb).step0 n1).lay hp
  refine ⟨G1, _, .list [.tuple []], n2.v, s0.mono n1.g, rfl, fun v3 G3 H3 n3 r3 => ⟨.ref p, v3, rfl, ?_⟩⟩
  have hp3 := n3.h p (.lst vs1) upd_same
  have gp3 : G3 p = none := n3.mask gp1 upd_same
  refine ⟨fun m σ H4 => ∃ G4 ws last found, AllInv K p G H names G4 σ H4 ws last found ∧ alGo names m last found = some ff, ⟨10, G3, vs1, _, _, ⟨?_, rfl, n2.step0 n3, gp3, hp3, r1.mono n3.g⟩, hgo⟩, ?_⟩
  · exact (((s0.mono (n1.g.trans n3.g)).forget (i := 1)).set (i := 2) r3)
  · rintro m σ H4 ⟨G4, ws, last, found, I, go⟩
    cases m with
    | zero => cases go
    | succ m =>
    refine liT_open (b := decide (0 < (last.length : Int))) I.n.v I.sl rfl fun H5 h5 => ?_
    have n5 := I.n.grow h5
    have hp5 := h5 _ _ I.hp
    cases last with
    | nil =>
      cases go
      refine iteF ?_
      have n7 := n5.publish (p := p) (o := .lst ws) hp0 (by simp) I.gp hp5
      have sg7 := same_upd (o := .lst ws) I.gp
      have s7 : Sl K (upd G4 p (.lst ws)) σ [some names, some (.list ff), some (.list []), none, none] := (I.sl.mono sg7).add (i := 1) I.s1 (.lst upd_same (I.rl.mono sg7))
      refine ⟨_, _, .rt d, n7.v, s7, ?_, fun v8 G8 H8 n8 r8 => q v8 G8 H8 (n7.nxt.trans n8) r8⟩
      show (match sortL ff with | some d => some (Out.rt d) | none => none) = _
      rw [e]
    | cons l0 lr =>
      unfold alGo at go
      split at go
      rotate_left
      · cases go
      rename_i l2 hl2
      split at go
      rotate_left
      · cases go
      rename_i hz
      rw [show decide (0 < (((l0 :: lr).length : Nat) : Int)) = true from decide_eq_true (by rw [List.length_cons]; omega)]
      refine iteT ⟨fun σ' H' => ∃ G4 ws last found, AllInv K p G H names G4 σ' H' ws last found ∧ alGo names m last found = some ff, fun σ' H' z => ⟨m, Nat.lt_succ_self _, z⟩, ?_⟩
      refine ⟨G4, _, .nx [some names, none, some (.list l2), none, none], n5.v, I.sl, ?_, fun σ6 G6 H6 n6 s6 f6 => ?_⟩
      · show (match alLc _ with | some d => some (Out.nx _) | none => none) = _
        rw [hl2]
        rfl
      have z1 : σ6[1]? = some (some (.ref p)) := by rw [f6 1 (by decide)]; exact I.s1
      have hp6 := n6.h _ _ hp5
      have gp6 : G6 p = none := n6.mask I.gp hp5
      obtain ⟨vb, z2, hvb⟩ := s6.at_ 2 (.list l2) rfl
      cases hvb with
      | @lst b zs _ hb rb =>
      have hbH := n6.v _ _ hb
      refine ⟨.ref p, z1, .inl ⟨rfl, ws, SqL.of hp6⟩, .ref b, z2, p, b, ws, zs, rfl, rfl, hp6, hbH, ?_, ?_⟩
      · rw [I.rl.length, rb.length]
        exact small_line hz
      · exact ⟨G6, ws ++ zs, l2, found ++ l2, ⟨s6, z1, (n5.step0 n6).write (.inr hp0) gp6, gp6, upd_same, (I.rl.mono n6.g).append rb⟩, go⟩
end
end Od
end
section
set_option maxHeartbeats 4000000
namespace Od
open PySem PySem.Spec PyProof.Rows L2
section
variable {P : Program} {w : World} {K : PySem.W.Frag} {mg : Str → Option Value} {base : Heap}
abbrev s_check_same : Stmt := topS 40
theorem sc_check_same : FnScope ["one", "other"] ["one", "other"] (defScope s_check_same) := ⟨rfl, rfl, rfl, by decide +kernel, rfl, by decide +kernel, by decide +kernel⟩
def t_check_same : DS :=
  (dIfS (dOrT (dB (d2 neD (dN m_bills (dArgs [(dVar 0)])) (dN m_bills (dArgs [(dVar 1)])))) (dB (d2 neD (dN m_payers (dArgs [(dVar 0)])) (dN m_payers (dArgs [(dVar 1)]))))) dNever dNext)
def m_check_same : List PyData → Option PyData := runD 2 t_check_same
theorem ok_check_same (T : Bl mg) (F : DefAt K mg "check_same" s_check_same) (D_bills : DefOk P w K mg base CX0 9 "bills" ["book"] (spD K 1 m_bills)) (D_payers : DefOk P w K mg base CX0 1 "payers" ["book"] (spD K 1 m_payers)) : DefOk P w K mg base CX0 10 "check_same" ["one", "other"] (spD K 2 m_check_same) :=
  F.okD (N := ["one", "other"]) (ps := ["one", "other"]) sc_check_same t_check_same (fun _ _ _ _ _ _ us hl => match us, hl with | [_, _], _ => rfl) (fun _ _ _ _ _ _ us hl => match us, hl with | [_, _], _ => rfl) fun f cdv A outer s H E hr =>
    (pds_one (pds_if (PW.pt (pdw_or (pdt_cmp (op_neDD hr.units) (pd_def D_bills (hr.mono (by decide)) rfl pass0 (pda_cons (pd 0) pda_nil)) (pd_def D_bills (hr.mono (by decide)) rfl pass0 (pda_cons (pd 1) pda_nil))) (pdw_or1 (pdt_cmp (op_neDD hr.units) (pd_def D_payers (hr.mono (by decide)) rfl pass0 (pda_cons (pd 0) pda_nil)) (pd_def D_payers (hr.mono (by decide)) rfl pass0 (pda_cons (pd 1) pda_nil)))))) (pds_one pds_never) pds_nil))
abbrev s_nearest_lists : Stmt := topS 39
theorem sc_nearest_lists : FnScope ["book", "payer", "row", "rows", "fewest", "other", "steps"] ["book", "payer"] (defScope s_nearest_lists) := ⟨rfl, rfl, rfl, by decide +kernel, rfl, by decide +kernel, by decide +kernel⟩
def t_nearest_lists : DS :=
  (dSeq (dDrop (dN m_check_payer (dArgs [(dVar 0), (dVar 1)])))
  (dSeq (dAsg 2 (dN m_list_of (dArgs [(dVar 0), (dVar 1)])))
  (dSeq (dAsg 3 (dLc (dItems (dN m_all_lists (dArgs [(dN m_bills (dArgs [(dVar 0)]))]))) (tgN 5) (dB (dN m_good_with (dArgs [(dVar 0), (dVar 1), (dVar 5)]))) (dTup [(dN m_fewest_steps (dArgs [(dVar 2), (dVar 5)])), (dVar 5)]) [5]))
  (dSeq (dIfS (dB (d2 eqD (dN lenD (dArgs [(dVar 3)])) (dC (.int 0)))) (dRet (dC .none)) dNext)
  (dSeq (dAsg 4 (dN minD (dArgs [(dLc (dItems (dVar 3)) (tgT [6, 5]) dYes (dVar 6) [6, 5])])))
  (dRet (dTup [(dVar 4), (dLc (dItems (dVar 3)) (tgT [6, 5]) (dB (d2 eqD (dVar 6) (dVar 4))) (dVar 5) [6, 5])])))))))
def m_nearest_lists : List PyData → Option PyData := runD 7 t_nearest_lists
theorem ok_nearest_lists (T : Bl mg) (F : DefAt K mg "nearest_lists" s_nearest_lists) (D_all_lists : DefOk P w K mg base CX0 1 "all_lists" ["names"] (spD K 1 m_all_lists)) (D_bills : DefOk P w K mg base CX0 9 "bills" ["book"] (spD K 1 m_bills)) (D_good_with : DefOk P w K mg base CX0 13 "good_with" ["book", "payer", "row"] (spD K 3 m_good_with)) (D_fewest_steps : DefOk P w K mg base CX0 1 "fewest_steps" ["one", "other"] (spD K 2 m_fewest_steps)) (D_list_of : DefOk P w K mg base CX0 10 "list_of" ["book", "payer"] (spD K 2 m_list_of)) (D_check_payer : DefOk P w K mg base CX0 2 "check_payer" ["book", "payer"] (spD K 2 m_check_payer)) : DefOk P w K mg base CX0 14 "nearest_lists" ["book", "payer"] (spD K 2 m_nearest_lists) :=
  F.okD (N := ["book", "payer", "row", "rows", "fewest", "other", "steps"]) (ps := ["book", "payer"]) sc_nearest_lists t_nearest_lists (fun _ _ _ _ _ _ us hl => match us, hl with | [_, _], _ => rfl) (fun _ _ _ _ _ _ us hl => match us, hl with | [_, _], _ => rfl) fun f cdv A outer s H E hr =>
    (pds_cons (pds_expr (pd_def D_check_payer (hr.mono (by decide)) rfl pass0 (pda_cons (pd 0) (pda_cons (pd 1) pda_nil))))
      (pds_cons (pds_set (i := 2) sc_nearest_lists.nd rfl (by first | exact Or.inl rfl | exact Or.inr rfl) (pd_def D_list_of (hr.mono (by decide)) rfl pass0 (pda_cons (pd 0) (pda_cons (pd 1) pda_nil))))
      (pds_cons (pds_setLc (i := 3) (own := [("other", 5)]) rfl sc_nearest_lists.nd rfl rfl (sw_true rfl rfl rfl (by decide +kernel)) (pdi_seq (pd_def D_all_lists (hr.mono (by decide)) rfl pass0 (pda_cons (pd_def D_bills (hr.mono (by decide)) rfl pass0 (pda_cons (pd 0) pda_nil)) pda_nil))) (blkOk_by (own := [("other", 5)]) (N := ["book", "payer", "row", "rows", "fewest", "other", "steps"]) (sc := (defScope s_nearest_lists)) (by decide +kernel)) (by decide) (fun _ _ _ _ _ => (pdg_name (i := 5) sc_nearest_lists.nd rfl (by first | exact Or.inl rfl | exact Or.inr rfl))) (fun _ _ _ _ _ => (pdts_one (pdt_val (pd_def D_good_with (hr.mono (by decide)) rfl pass0 (pda_cons (pd 0) (pda_cons (pd 1) (pda_cons (pd 5) pda_nil))))))) (fun _ _ _ _ _ => (pd_tup (pda_cons (pd_def D_fewest_steps (hr.mono (by decide)) rfl pass0 (pda_cons (pd 2) (pda_cons (pd 5) pda_nil))) (pda_cons (pd 5) pda_nil)))))
      (pds_cons (pds_if (pdt_cmp (op_eqDD hr.units) (pd_callB call_lenDD rfl T.len boot_len (pda_cons (pd 3) pda_nil)) pd_int) (pds_one (pds_ret pd_non)) pds_nil)
      (pds_cons (pds_set (i := 4) sc_nearest_lists.nd rfl (by first | exact Or.inl rfl | exact Or.inr rfl) (pd_callB (call_minD rfl) rfl T.min boot_min (pda_cons (pd_lc (own := [("steps", 6), ("other", 5)]) rfl sc_nearest_lists.nd (pdi_seq (pd 3)) (blkOk_by (own := [("steps", 6), ("other", 5)]) (N := ["book", "payer", "row", "rows", "fewest", "other", "steps"]) (sc := (defScope s_nearest_lists)) (by decide +kernel)) (by decide) (fun _ _ _ _ _ => (pdg_tup rfl (pdgs_cons (pdg_name (i := 6) sc_nearest_lists.nd rfl (by first | exact Or.inl rfl | exact Or.inr rfl)) (pdgs_cons (pdg_name (i := 5) sc_nearest_lists.nd rfl (by first | exact Or.inl rfl | exact Or.inr rfl)) pdgs_nil)))) (fun _ _ _ _ _ => pdts_nil) (fun _ _ _ _ _ => (pd 6))) pda_nil)))
      (pds_one (pds_ret (pd_tup (pda_cons (pd 4) (pda_cons (pd_lc (own := [("steps", 6), ("other", 5)]) rfl sc_nearest_lists.nd (pdi_seq (pd 3)) (blkOk_by (own := [("steps", 6), ("other", 5)]) (N := ["book", "payer", "row", "rows", "fewest", "other", "steps"]) (sc := (defScope s_nearest_lists)) (by decide +kernel)) (by decide) (fun _ _ _ _ _ => (pdg_tup rfl (pdgs_cons (pdg_name (i := 6) sc_nearest_lists.nd rfl (by first | exact Or.inl rfl | exact Or.inr rfl)) (pdgs_cons (pdg_name (i := 5) sc_nearest_lists.nd rfl (by first | exact Or.inl rfl | exact Or.inr rfl)) pdgs_nil)))) (fun _ _ _ _ _ => (pdts_one (pdt_cmp (op_eqDD hr.units) (pd 6) (pd 4)))) (fun _ _ _ _ _ => (pd 5))) pda_nil))))))))))
abbrev s_unlike_payers : Stmt := topS 41
theorem sc_unlike_payers : FnScope ["one", "other", "payer"] ["one", "other"] (defScope s_unlike_payers) := ⟨rfl, rfl, rfl, by decide +kernel, rfl, by decide +kernel, by decide +kernel⟩
def t_unlike_payers : DS :=
  (dSeq (dDrop (dN m_check_same (dArgs [(dVar 0), (dVar 1)])))
  (dRet (dN tupD (dArgs [(dLc (dItems (dN m_payers (dArgs [(dVar 0)]))) (tgN 2) (dB (d2 neD (dN m_list_of (dArgs [(dVar 0), (dVar 2)])) (dN m_list_of (dArgs [(dVar 1), (dVar 2)])))) (dVar 2) [2])]))))
def m_unlike_payers : List PyData → Option PyData := runD 3 t_unlike_payers
theorem ok_unlike_payers (T : Bl mg) (F : DefAt K mg "unlike_payers" s_unlike_payers) (D_payers : DefOk P w K mg base CX0 1 "payers" ["book"] (spD K 1 m_payers)) (D_list_of : DefOk P w K mg base CX0 10 "list_of" ["book", "payer"] (spD K 2 m_list_of)) (D_check_same : DefOk P w K mg base CX0 10 "check_same" ["one", "other"] (spD K 2 m_check_same)) : DefOk P w K mg base CX0 11 "unlike_payers" ["one", "other"] (spD K 2 m_unlike_payers) :=
  F.okD (N := ["one", "other", "payer"]) (ps := ["one", "other"]) sc_unlike_payers t_unlike_payers (fun _ _ _ _ _ _ us hl => match us, hl with | [_, _], _ => rfl) (fun _ _ _ _ _ _ us hl => match us, hl with | [_, _], _ => rfl) fun f cdv A outer s H E hr =>
    (pds_cons (pds_expr (pd_def D_check_same (hr.mono (by decide)) rfl pass0 (pda_cons (pd 0) (pda_cons (pd 1) pda_nil))))
      (pds_one (pds_ret (pd_callTy call_tupD rfl T.tuple boot_tuple (pda_cons (pd_lc (own := [("payer", 2)]) rfl sc_unlike_payers.nd (pdi_seq (pd_def D_payers (hr.mono (by decide)) rfl pass0 (pda_cons (pd 0) pda_nil))) (blkOk_by (own := [("payer", 2)]) (N := ["one", "other", "payer"]) (sc := (defScope s_unlike_payers)) (by decide +kernel)) (by decide) (fun _ _ _ _ _ => (pdg_name (i := 2) sc_unlike_payers.nd rfl (by first | exact Or.inl rfl | exact Or.inr rfl))) (fun _ _ _ _ _ => (pdts_one (pdt_cmp (op_neDD hr.units) (pd_def D_list_of (hr.mono (by decide)) rfl pass0 (pda_cons (pd 0) (pda_cons (pd 2) pda_nil))) (pd_def D_list_of (hr.mono (by decide)) rfl pass0 (pda_cons (pd 1) (pda_cons (pd 2) pda_nil)))))) (fun _ _ _ _ _ => (pd 2))) pda_nil)))))
abbrev s_parting_payment : Stmt := topS 42
theorem sc_parting_payment : FnScope ["one", "other", "found", "place", "unpaid", "mine", "its", "bill"] ["one", "other"] (defScope s_parting_payment) := ⟨rfl, rfl, rfl, by decide +kernel, rfl, by decide +kernel, by decide +kernel⟩
def t_parting_payment : DS :=
  (dSeq (dAsg 2 (dN m_unlike_payers (dArgs [(dVar 0), (dVar 1)])))
  (dSeq (dIfS (dB (d2 eqD (dN lenD (dArgs [(dVar 2)])) (dC (.int 0)))) (dRet (dC .none)) dNext)
  (dSeq (dPar 5 6 (dN m_list_of (dArgs [(dVar 0), (d2 ixD (dVar 2) (dC (.int 0)))])) (dN m_list_of (dArgs [(dVar 1), (d2 ixD (dVar 2) (dC (.int 0)))])))
  (dSeq (dAsg 3 (dC (.int 0)))
  (dSeq (dWhile 100 (dAndT (dB (d2 ltD (dVar 3) (dN lenD (dArgs [(dVar 5)])))) (dAndT (dB (d2 ltD (dVar 3) (dN lenD (dArgs [(dVar 6)])))) (dB (d2 eqD (d2 ixD (dVar 5) (dVar 3)) (d2 ixD (dVar 6) (dVar 3)))))) (dAsg 3 (d2 addD (dVar 3) (dC (.int 1)))))
  (dSeq (dAsg 4 (dLstA (dStar (dSl (dVar 5) (dPart (dVar 3)) (dPart (d2 addD (dVar 3) (dC (.int 1))))) (dStar (dSl (dVar 6) (dPart (dVar 3)) (dPart (d2 addD (dVar 3) (dC (.int 1))))) (fun _ => some [])))))
  (dRet (dTup [(dN tupD (dArgs [(dLc (dItems (dN m_bills (dArgs [(dVar 0)]))) (tgN 7) dYes (dTup [(dVar 7), (dN intD (dArgs [(d2 inD (dVar 7) (dVar 4))]))]) [7])])), (d2 ixD (dVar 2) (dC (.int 0))), (dC (.int 1))]))))))))
def m_parting_payment : List PyData → Option PyData := runD 8 t_parting_payment
theorem ok_parting_payment (T : Bl mg) (F : DefAt K mg "parting_payment" s_parting_payment) (D_bills : DefOk P w K mg base CX0 9 "bills" ["book"] (spD K 1 m_bills)) (D_list_of : DefOk P w K mg base CX0 10 "list_of" ["book", "payer"] (spD K 2 m_list_of)) (D_unlike_payers : DefOk P w K mg base CX0 11 "unlike_payers" ["one", "other"] (spD K 2 m_unlike_payers)) : DefOk P w K mg base CX0 12 "parting_payment" ["one", "other"] (spD K 2 m_parting_payment) :=
  F.okD (N := ["one", "other", "found", "place", "unpaid", "mine", "its", "bill"]) (ps := ["one", "other"]) sc_parting_payment t_parting_payment (fun _ _ _ _ _ _ us hl => match us, hl with | [_, _], _ => rfl) (fun _ _ _ _ _ _ us hl => match us, hl with | [_, _], _ => rfl) fun f cdv A outer s H E hr =>
    (pds_cons (pds_set (i := 2) sc_parting_payment.nd rfl (by first | exact Or.inl rfl | exact Or.inr rfl) (pd_def D_unlike_payers (hr.mono (by decide)) rfl pass0 (pda_cons (pd 0) (pda_cons (pd 1) pda_nil))))
      (pds_cons (pds_if (pdt_cmp (op_eqDD hr.units) (pd_callB call_lenDD rfl T.len boot_len (pda_cons (pd 2) pda_nil)) pd_int) (pds_one (pds_ret pd_non)) pds_nil)
      (pds_cons (pds_par (i := 5) (j := 6) rfl sc_parting_payment.nd rfl rfl (by decide) rfl rfl (pd_def D_list_of (hr.mono (by decide)) rfl pass0 (pda_cons (pd 0) (pda_cons (pd_ix ix_D (pd 2) pd_int) pda_nil))) (pd_def D_list_of (hr.mono (by decide)) rfl pass0 (pda_cons (pd 1) (pda_cons (pd_ix ix_D (pd 2) pd_int) pda_nil))) (by rfl))
      (pds_cons (pds_set (i := 3) sc_parting_payment.nd rfl (by first | exact Or.inl rfl | exact Or.inr rfl) pd_int)
      (pds_cons (pds_while (n := 100) PassesOwn.never (PW.pt (pdw_and (pdt_cmp op_ltD (pd 3) (pd_callB call_lenDD rfl T.len boot_len (pda_cons (pd 5) pda_nil))) (pdw_and (pdt_cmp op_ltD (pd 3) (pd_callB call_lenDD rfl T.len boot_len (pda_cons (pd 6) pda_nil))) (pdw_and1 (pdt_cmp (op_eqDD hr.units) (pd_ix ix_D (pd 5) (pd 3)) (pd_ix ix_D (pd 6) (pd 3))))))) (pds_one (pds_set (i := 3) sc_parting_payment.nd rfl (by first | exact Or.inl rfl | exact Or.inr rfl) (pd_op op_addD (pd 3) pd_int))))
      (pds_cons (pds_set (i := 4) sc_parting_payment.nd rfl (by first | exact Or.inl rfl | exact Or.inr rfl) (pd_lstS (pdas_star (pd_slice (pd 5) (pdo_some (pd 3)) (pdo_some (pd_op op_addD (pd 3) pd_int))) (pdas_star (pd_slice (pd 6) (pdo_some (pd 3)) (pdo_some (pd_op op_addD (pd 3) pd_int))) pdas_nil))))
      (pds_one (pds_ret (pd_tup (pda_cons (pd_callTy call_tupD rfl T.tuple boot_tuple (pda_cons (pd_lc (own := [("bill", 7)]) rfl sc_parting_payment.nd (pdi_seq (pd_def D_bills (hr.mono (by decide)) rfl pass0 (pda_cons (pd 0) pda_nil))) (blkOk_by (own := [("bill", 7)]) (N := ["one", "other", "found", "place", "unpaid", "mine", "its", "bill"]) (sc := (defScope s_parting_payment)) (by decide +kernel)) (by decide) (fun _ _ _ _ _ => (pdg_name (i := 7) sc_parting_payment.nd rfl (by first | exact Or.inl rfl | exact Or.inr rfl))) (fun _ _ _ _ _ => pdts_nil) (fun _ _ _ _ _ => (pd_tup (pda_cons (pd 7) (pda_cons (pd_callTy call_intD rfl T.int boot_int (pda_cons (pd_cmp op_inD (pd 7) (pd 4)) pda_nil)) pda_nil))))) pda_nil)) (pda_cons (pd_ix ix_D (pd 2) pd_int) (pda_cons pd_int pda_nil))))))))))))
abbrev s_is_parting_payment : Stmt := topS 43
theorem sc_is_parting_payment : FnScope ["one", "other", "thing", "dues", "payer", "amount"] ["one", "other", "thing"] (defScope s_is_parting_payment) := ⟨rfl, rfl, rfl, by decide +kernel, rfl, by decide +kernel, by decide +kernel⟩
def t_is_parting_payment : DS :=
  (dSeq (dDrop (dN m_check_same (dArgs [(dVar 0), (dVar 1)])))
  (dSeq (dIfS (dOrT (dNotT (dB (d1 (isiD "tuple") (dVar 2)))) (dOrT (dB (d2 neD (dN lenD (dArgs [(dVar 2)])) (dC (.int 3)))) (dNotT (dB (dN m_is_dues (dArgs [(dVar 0), (d2 ixD (dVar 2) (dC (.int 0)))])))))) (dRet (dC (.bool false))) dNext)
  (dSeq (dAsgG (tgT [3, 4, 5]) (dVar 2))
  (dSeq (dIfS (dOrT (dNotT (dB (dN m_is_name (dArgs [(dVar 4)])))) (dOrT (dB (d2 notInD (dVar 4) (dN m_payers (dArgs [(dVar 0)])))) (dOrT (dNotT (dB (dN m_is_number (dArgs [(dVar 5)])))) (dB (d2 ltD (dVar 5) (dC (.int 0))))))) (dRet (dC (.bool false))) dNext)
  (dRet (d2 neD (d2 ixD (dN m_laid (dArgs [(dVar 0), (dVar 3), (dVar 4), (dVar 5)])) (dC (.int 0))) (d2 ixD (dN m_laid (dArgs [(dVar 1), (dVar 3), (dVar 4), (dVar 5)])) (dC (.int 0)))))))))
def m_is_parting_payment : List PyData → Option PyData := runD 6 t_is_parting_payment
theorem ok_is_parting_payment (T : Bl mg) (F : DefAt K mg "is_parting_payment" s_is_parting_payment) (D_laid : DefOk P w K mg base CX0 11 "laid" ["book", "dues", "payer", "amount"] (spD K 4 m_laid)) (D_is_name : DefOk P w K mg base CX0 1 "is_name" ["value"] (spD K 1 m_is_name)) (D_payers : DefOk P w K mg base CX0 1 "payers" ["book"] (spD K 1 m_payers)) (D_is_number : DefOk P w K mg base CX0 1 "is_number" ["value"] (spD K 1 m_is_number)) (D_is_dues : DefOk P w K mg base CX0 10 "is_dues" ["book", "thing"] (spD K 2 m_is_dues)) (D_check_same : DefOk P w K mg base CX0 10 "check_same" ["one", "other"] (spD K 2 m_check_same)) : DefOk P w K mg base CX0 12 "is_parting_payment" ["one", "other", "thing"] (spD K 3 m_is_parting_payment) :=
  F.okD (N := ["one", "other", "thing", "dues", "payer", "amount"]) (ps := ["one", "other", "thing"]) sc_is_parting_payment t_is_parting_payment (fun _ _ _ _ _ _ us hl => match us, hl with | [_, _, _], _ => rfl) (fun _ _ _ _ _ _ us hl => match us, hl with | [_, _, _], _ => rfl) fun f cdv A outer s H E hr =>
    (pds_cons (pds_expr (pd_def D_check_same (hr.mono (by decide)) rfl pass0 (pda_cons (pd 0) (pda_cons (pd 1) pda_nil))))
      (pds_cons (pds_if (PW.pt (pdw_or (pdt_not (pdt_val (pd_isi rfl T.isinstance (pd 2) rfl T.tuple boot_tuple (by decide)))) (pdw_or (pdt_cmp (op_neDD hr.units) (pd_callB call_lenDD rfl T.len boot_len (pda_cons (pd 2) pda_nil)) pd_int) (pdw_or1 (pdt_not (pdt_val (pd_def D_is_dues (hr.mono (by decide)) rfl pass0 (pda_cons (pd 0) (pda_cons (pd_ix ix_D (pd 2) pd_int) pda_nil))))))))) (pds_one (pds_ret pd_bl)) pds_nil)
      (pds_cons (pds_asgG (pd 2) (pdg_tup rfl (pdgs_cons (pdg_name (i := 3) sc_is_parting_payment.nd rfl (by first | exact Or.inl rfl | exact Or.inr rfl)) (pdgs_cons (pdg_name (i := 4) sc_is_parting_payment.nd rfl (by first | exact Or.inl rfl | exact Or.inr rfl)) (pdgs_cons (pdg_name (i := 5) sc_is_parting_payment.nd rfl (by first | exact Or.inl rfl | exact Or.inr rfl)) pdgs_nil)))))
      (pds_cons (pds_if (PW.pt (pdw_or (pdt_not (pdt_val (pd_def D_is_name (hr.mono (by decide)) rfl pass0 (pda_cons (pd 4) pda_nil)))) (pdw_or (pdt_cmp op_notInD (pd 4) (pd_def D_payers (hr.mono (by decide)) rfl pass0 (pda_cons (pd 0) pda_nil))) (pdw_or (pdt_not (pdt_val (pd_def D_is_number (hr.mono (by decide)) rfl pass0 (pda_cons (pd 5) pda_nil)))) (pdw_or1 (pdt_cmp op_ltD (pd 5) pd_int)))))) (pds_one (pds_ret pd_bl)) pds_nil)
      (pds_one (pds_ret (pd_cmp (op_neDD hr.units) (pd_ix ix_D (pd_def D_laid (hr.mono (by decide)) rfl pass0 (pda_cons (pd 0) (pda_cons (pd 3) (pda_cons (pd 4) (pda_cons (pd 5) pda_nil))))) pd_int) (pd_ix ix_D (pd_def D_laid (hr.mono (by decide)) rfl pass0 (pda_cons (pd 1) (pda_cons (pd 3) (pda_cons (pd 4) (pda_cons (pd 5) pda_nil))))) pd_int))))))))
abbrev s_law_lists : Stmt := topS 49
theorem sc_law_lists : FnScope ["_law_matter", "_law_bit"] ["_law_matter"] (defScope s_law_lists) := ⟨rfl, rfl, rfl, by decide +kernel, rfl, by decide +kernel, by decide +kernel⟩
def t_law_lists (m_law_lists : List PyData → Option PyData) : DS :=
  (dRet (dIf (dB (d1 (isi2D "list" "tuple") (dVar 0))) (dLc (dItems (dVar 0)) (tgN 1) dYes (dN m_law_lists (dArgs [(dVar 1)])) [1]) (dVar 0)))
def f_law_lists : Nat → List PyData → Option PyData
  | 0 => fun _ => none
  | n + 1 => runD 2 (t_law_lists (f_law_lists n))
def m_law_lists : List PyData → Option PyData := f_law_lists 7
theorem step_law_lists (T : Bl mg) (F : DefAt K mg "_law_lists" s_law_lists) {k : Nat} {m_law_lists : List PyData → Option PyData} (lo : 1 ≤ k) (le : k ≤ k) (D_law_lists : DefOk P w K mg base CX0 k "_law_lists" ["_law_matter"] (spD K 1 m_law_lists)) : DefOk P w K mg base CX0 (k + 1) "_law_lists" ["_law_matter"] (spD K 1 (runD 2 (t_law_lists m_law_lists))) :=
  F.okD (N := ["_law_matter", "_law_bit"]) (ps := ["_law_matter"]) sc_law_lists (t_law_lists m_law_lists) (fun _ _ _ _ _ _ us hl => match us, hl with | [_], _ => rfl) (fun _ _ _ _ _ _ us hl => match us, hl with | [_], _ => rfl) fun f cdv A outer s H E hr =>
    (pds_one (pds_ret (pd_if (pdt_val (pd_isi2 rfl T.isinstance (pd 0) rfl T.list boot_list rfl T.tuple boot_tuple (by decide) (by decide))) (pd_lc (own := [("_law_bit", 1)]) rfl sc_law_lists.nd (pdi_seq (pd 0)) (blkOk_by (own := [("_law_bit", 1)]) (N := ["_law_matter", "_law_bit"]) (sc := (defScope s_law_lists)) (by decide +kernel)) (by decide) (fun _ _ _ _ _ => (pdg_name (i := 1) sc_law_lists.nd rfl (by first | exact Or.inl rfl | exact Or.inr rfl))) (fun _ _ _ _ _ => pdts_nil) (fun _ _ _ _ _ => (pd_def D_law_lists (hr.mono le) rfl pass0 (pda_cons (pd 1) pda_nil)))) (pd 0))))
theorem base_law_lists (F : DefAt K mg "_law_lists" s_law_lists) : DefOk P w K mg base CX0 1 "_law_lists" ["_law_matter"] (spD K 1 (f_law_lists 0)) :=
  ((F.okD (N := ["_law_matter", "_law_bit"]) (ps := ["_law_matter"]) sc_law_lists dNever (fun _ _ _ _ _ _ us hl => match us, hl with | [_], _ => rfl) (fun _ _ _ _ _ _ us hl => match us, hl with | [_], _ => rfl) (k := 0) fun f cdv A outer s H E hr => (pds_one pds_never)).as fun ds d e => by cases e)
theorem ok_law_lists (T : Bl mg) (F : DefAt K mg "_law_lists" s_law_lists) : DefOk P w K mg base CX0 8 "_law_lists" ["_law_matter"] (spD K 1 m_law_lists) := by
  have h : ∀ n, DefOk P w K mg base CX0 (1 + n) "_law_lists" ["_law_matter"] (spD K 1 (f_law_lists n)) := fun n => by
    induction n with
    | zero => exact base_law_lists F
    | succ n ih => exact step_law_lists T F (Nat.le_add_right _ _) (Nat.le_refl _) ih
  exact h 7
abbrev s_law_same : Stmt := topS 50
theorem sc_law_same : FnScope ["_law_got", "_law_goal", "_law_mine_so", "_law_own"] ["_law_got", "_law_goal"] (defScope s_law_same) := ⟨rfl, rfl, rfl, by decide +kernel, rfl, by decide +kernel, by decide +kernel⟩
def t_law_same (m_law_same : List PyData → Option PyData) : DS :=
  (dSeq (dIfS (dB (d1 (isi2D "list" "tuple") (dVar 1))) (dSeq (dIfS (dOrT (dB (d2 neD (d1 (isiD "list") (dVar 0)) (d1 (isiD "list") (dVar 1)))) (dB (d2 neD (d1 (isiD "tuple") (dVar 0)) (d1 (isiD "tuple") (dVar 1))))) (dRet (dC (.bool false))) dNext)
  (dRet (dAnd (d2 eqD (dN lenD (dArgs [(dVar 0)])) (dN lenD (dArgs [(dVar 1)]))) (dN allD (dArgs [(dLc (dZip (dVar 0) (dVar 1)) (tgT [2, 3]) dYes (dN m_law_same (dArgs [(dVar 2), (dVar 3)])) [2, 3])]))))) dNext)
  (dSeq (dIfS (dOrT (dB (d2 isD (dVar 1) (dC .none))) (dB (d1 (isi2D "bool" "str") (dVar 1)))) (dRet (dAnd (d2 eqD (dVar 0) (dVar 1)) (dAnd (d2 eqD (d1 (isiD "bool") (dVar 0)) (d1 (isiD "bool") (dVar 1))) (d2 eqD (d2 isD (dVar 0) (dC .none)) (d2 isD (dVar 1) (dC .none)))))) dNext)
  (dRet (dAnd (d1 (isiD "int") (dVar 0)) (dAnd (dNot (d1 (isiD "bool") (dVar 0))) (d2 eqD (dVar 0) (dVar 1)))))))
def f_law_same : Nat → List PyData → Option PyData
  | 0 => fun _ => none
  | n + 1 => runD 4 (t_law_same (f_law_same n))
def m_law_same : List PyData → Option PyData := f_law_same 7
theorem step_law_same (T : Bl mg) (F : DefAt K mg "_law_same" s_law_same) {k : Nat} {m_law_same : List PyData → Option PyData} (lo : 1 ≤ k) (le : k ≤ k) (D_law_same : DefOk P w K mg base CX0 k "_law_same" ["_law_got", "_law_goal"] (spD K 2 m_law_same)) : DefOk P w K mg base CX0 (k + 1) "_law_same" ["_law_got", "_law_goal"] (spD K 2 (runD 4 (t_law_same m_law_same))) :=
  F.okD (N := ["_law_got", "_law_goal", "_law_mine_so", "_law_own"]) (ps := ["_law_got", "_law_goal"]) sc_law_same (t_law_same m_law_same) (fun _ _ _ _ _ _ us hl => match us, hl with | [_, _], _ => rfl) (fun _ _ _ _ _ _ us hl => match us, hl with | [_, _], _ => rfl) fun f cdv A outer s H E hr =>
    (pds_cons (pds_if (pdt_val (pd_isi2 rfl T.isinstance (pd 1) rfl T.list boot_list rfl T.tuple boot_tuple (by decide) (by decide))) (pds_cons (pds_if (PW.pt (pdw_or (pdt_cmp (op_neDD hr.units) (pd_isi rfl T.isinstance (pd 0) rfl T.list boot_list (by decide)) (pd_isi rfl T.isinstance (pd 1) rfl T.list boot_list (by decide))) (pdw_or1 (pdt_cmp (op_neDD hr.units) (pd_isi rfl T.isinstance (pd 0) rfl T.tuple boot_tuple (by decide)) (pd_isi rfl T.isinstance (pd 1) rfl T.tuple boot_tuple (by decide)))))) (pds_one (pds_ret pd_bl)) pds_nil)
      (pds_one (pds_ret (pd_and (pd_cmp (op_eqDD hr.units) (pd_callB call_lenDD rfl T.len boot_len (pda_cons (pd 0) pda_nil)) (pd_callB call_lenDD rfl T.len boot_len (pda_cons (pd 1) pda_nil))) (pd_one (pd_callB (call_allD rfl) rfl T.all boot_all (pda_cons (pd_lc (own := [("_law_mine_so", 2), ("_law_own", 3)]) rfl sc_law_same.nd (pdi_zip rfl T.zip (pd 0) (pd 1)) (blkOk_by (own := [("_law_mine_so", 2), ("_law_own", 3)]) (N := ["_law_got", "_law_goal", "_law_mine_so", "_law_own"]) (sc := (defScope s_law_same)) (by decide +kernel)) (by decide) (fun _ _ _ _ _ => (pdg_tupW rfl (pdgs_cons (pdg_name (i := 2) sc_law_same.nd rfl (by first | exact Or.inl rfl | exact Or.inr rfl)) (pdgs_cons (pdg_name (i := 3) sc_law_same.nd rfl (by first | exact Or.inl rfl | exact Or.inr rfl)) pdgs_nil)))) (fun _ _ _ _ _ => pdts_nil) (fun _ _ _ _ _ => (pd_def D_law_same (hr.mono le) rfl pass0 (pda_cons (pd 2) (pda_cons (pd 3) pda_nil))))) pda_nil))))))) pds_nil)
      (pds_cons (pds_if (PW.pt (pdw_or (pdt_cmp op_isD (pd 1) pd_non) (pdw_or1 (pdt_val (pd_isi2 rfl T.isinstance (pd 1) rfl T.bool boot_bool rfl T.str boot_str (by decide) (by decide)))))) (pds_one (pds_ret (pd_and (pd_cmp (op_eqDD hr.units) (pd 0) (pd 1)) (pd_and (pd_cmp (op_eqDD hr.units) (pd_isi rfl T.isinstance (pd 0) rfl T.bool boot_bool (by decide)) (pd_isi rfl T.isinstance (pd 1) rfl T.bool boot_bool (by decide))) (pd_one (pd_cmp (op_eqDD hr.units) (pd_cmp op_isD (pd 0) pd_non) (pd_cmp op_isD (pd 1) pd_non))))))) pds_nil)
      (pds_one (pds_ret (pd_and (pd_isi rfl T.isinstance (pd 0) rfl T.int boot_int (by decide)) (pd_and (pd_not (pd_isi rfl T.isinstance (pd 0) rfl T.bool boot_bool (by decide))) (pd_one (pd_cmp (op_eqDD hr.units) (pd 0) (pd 1)))))))))
theorem base_law_same (F : DefAt K mg "_law_same" s_law_same) : DefOk P w K mg base CX0 1 "_law_same" ["_law_got", "_law_goal"] (spD K 2 (f_law_same 0)) :=
  ((F.okD (N := ["_law_got", "_law_goal", "_law_mine_so", "_law_own"]) (ps := ["_law_got", "_law_goal"]) sc_law_same (dSeq dNever (dSeq dNever dNever)) (fun _ _ _ _ _ _ us hl => match us, hl with | [_, _], _ => rfl) (fun _ _ _ _ _ _ us hl => match us, hl with | [_, _], _ => rfl) (k := 0) fun f cdv A outer s H E hr => (pds_cons pds_never (pds_cons pds_never (pds_one pds_never)))).as fun ds d e => by cases e)
theorem ok_law_same (T : Bl mg) (F : DefAt K mg "_law_same" s_law_same) : DefOk P w K mg base CX0 8 "_law_same" ["_law_got", "_law_goal"] (spD K 2 m_law_same) := by
  have h : ∀ n, DefOk P w K mg base CX0 (1 + n) "_law_same" ["_law_got", "_law_goal"] (spD K 2 (f_law_same n)) := fun n => by
    induction n with
    | zero => exact base_law_same F
    | succ n ih => exact step_law_same T F (Nat.le_add_right _ _) (Nat.le_refl _) ih
  exact h 7
abbrev s_law_rest : Stmt := topS 51
theorem sc_law_rest : FnScope ["_law_one_so", "_law_other_so", "_law_tag", "_law_gone_so", "_law_own"] ["_law_one_so", "_law_other_so", "_law_tag"] (defScope s_law_rest) := ⟨rfl, rfl, rfl, by decide +kernel, rfl, by decide +kernel, by decide +kernel⟩
def t_law_rest : DS :=
  (dSeq (dAsg 3 (dSl (dVar 1) dNo (dPart (d2 indexD (dVar 1) (dVar 2)))))
  (dRet (dN tupD (dArgs [(dLc (dItems (dSl (dVar 0) (dPart (d2 addD (d2 indexD (dVar 0) (dVar 2)) (dC (.int 1)))) dNo)) (tgN 4) (dB (d2 notInD (dVar 4) (dVar 3))) (dVar 4) [4])]))))
def m_law_rest : List PyData → Option PyData := runD 5 t_law_rest
theorem ok_law_rest (T : Bl mg) (F : DefAt K mg "_law_rest" s_law_rest) : DefOk P w K mg base CX0 1 "_law_rest" ["_law_one_so", "_law_other_so", "_law_tag"] (spD K 3 m_law_rest) :=
  F.okD (N := ["_law_one_so", "_law_other_so", "_law_tag", "_law_gone_so", "_law_own"]) (ps := ["_law_one_so", "_law_other_so", "_law_tag"]) sc_law_rest t_law_rest (fun _ _ _ _ _ _ us hl => match us, hl with | [_, _, _], _ => rfl) (fun _ _ _ _ _ _ us hl => match us, hl with | [_, _, _], _ => rfl) fun f cdv A outer s H E hr =>
    (pds_cons (pds_set (i := 3) sc_law_rest.nd rfl (by first | exact Or.inl rfl | exact Or.inr rfl) (pd_slice (pd 1) pdo_none (pdo_some (pd_index (pd 1) (pd 2)))))
      (pds_one (pds_ret (pd_callTy call_tupD rfl T.tuple boot_tuple (pda_cons (pd_lc (own := [("_law_own", 4)]) rfl sc_law_rest.nd (pdi_seq (pd_slice (pd 0) (pdo_some (pd_op op_addD (pd_index (pd 0) (pd 2)) pd_int)) pdo_none)) (blkOk_by (own := [("_law_own", 4)]) (N := ["_law_one_so", "_law_other_so", "_law_tag", "_law_gone_so", "_law_own"]) (sc := (defScope s_law_rest)) (by decide +kernel)) (by decide) (fun _ _ _ _ _ => (pdg_name (i := 4) sc_law_rest.nd rfl (by first | exact Or.inl rfl | exact Or.inr rfl))) (fun _ _ _ _ _ => (pdts_one (pdt_cmp op_notInD (pd 4) (pd 3)))) (fun _ _ _ _ _ => (pd 4))) pda_nil)))))
abbrev s_law_fit : Stmt := topS 52
theorem sc_law_fit : FnScope ["_law_one_so", "_law_other_so", "_law_own"] ["_law_one_so", "_law_other_so"] (defScope s_law_fit) := ⟨rfl, rfl, rfl, by decide +kernel, rfl, by decide +kernel, by decide +kernel⟩
def t_law_fit : DS :=
  (dSeq (dFor (dItems (dVar 0)) (tgN 2) (dIfS (dAndT (dB (d2 inD (dVar 2) (dVar 1))) (dB (d2 neD (dN m_law_rest (dArgs [(dVar 0), (dVar 1), (dVar 2)])) (dN m_law_rest (dArgs [(dVar 1), (dVar 0), (dVar 2)]))))) (dRet (dC (.bool false))) dNext))
  (dRet (dC (.bool true))))
def m_law_fit : List PyData → Option PyData := runD 3 t_law_fit
theorem ok_law_fit (T : Bl mg) (F : DefAt K mg "_law_fit" s_law_fit) (D_law_rest : DefOk P w K mg base CX0 1 "_law_rest" ["_law_one_so", "_law_other_so", "_law_tag"] (spD K 3 m_law_rest)) : DefOk P w K mg base CX0 2 "_law_fit" ["_law_one_so", "_law_other_so"] (spD K 2 m_law_fit) :=
  F.okD (N := ["_law_one_so", "_law_other_so", "_law_own"]) (ps := ["_law_one_so", "_law_other_so"]) sc_law_fit t_law_fit (fun _ _ _ _ _ _ us hl => match us, hl with | [_, _], _ => rfl) (fun _ _ _ _ _ _ us hl => match us, hl with | [_, _], _ => rfl) fun f cdv A outer s H E hr =>
    (pds_cons (pds_for PassesOwn.never rfl (pdi_seq (pd 0)) (pdg_name (i := 2) sc_law_fit.nd rfl (by first | exact Or.inl rfl | exact Or.inr rfl)) (pds_one (pds_if (PW.pt (pdw_and (pdt_cmp op_inD (pd 2) (pd 1)) (pdw_and1 (pdt_cmp (op_neDD hr.units) (pd_def D_law_rest (hr.mono (by decide)) rfl pass0 (pda_cons (pd 0) (pda_cons (pd 1) (pda_cons (pd 2) pda_nil)))) (pd_def D_law_rest (hr.mono (by decide)) rfl pass0 (pda_cons (pd 1) (pda_cons (pd 0) (pda_cons (pd 2) pda_nil)))))))) (pds_one (pds_ret pd_bl)) pds_nil)))
      (pds_one (pds_ret pd_bl)))
abbrev s_law_bills : Stmt := topS 55
theorem sc_law_bills : FnScope ["_law_urn", "_law_count_so"] ["_law_urn", "_law_count_so"] (defScope s_law_bills) := ⟨rfl, rfl, rfl, by decide +kernel, rfl, by decide +kernel, by decide +kernel⟩
def t_law_bills : DS :=
  (dRet (dSl (dTup [(dC (.str (Str.ofString "a"))), (dC (.str (Str.ofString "b"))), (dC (.str (Str.ofString "c"))), (dC (.str (Str.ofString "d"))), (dC (.str (Str.ofString "rent")))]) dNo (dPart (dVar 1))))
def m_law_bills : List PyData → Option PyData := runD 2 t_law_bills
theorem ok_law_bills (T : Bl mg) (F : DefAt K mg "_law_bills" s_law_bills) : DefOk P w K mg base CX0 1 "_law_bills" ["_law_urn", "_law_count_so"] (spD K 2 m_law_bills) :=
  F.okD (N := ["_law_urn", "_law_count_so"]) (ps := ["_law_urn", "_law_count_so"]) sc_law_bills t_law_bills (fun _ _ _ _ _ _ us hl => match us, hl with | [_, _], _ => rfl) (fun _ _ _ _ _ _ us hl => match us, hl with | [_, _], _ => rfl) fun f cdv A outer s H E hr =>
    (pds_one (pds_ret (pd_slice (pd_tup (pda_cons pd_str (pda_cons pd_str (pda_cons pd_str (pda_cons pd_str (pda_cons pd_str pda_nil)))))) pdo_none (pdo_some (pd 1)))))
abbrev s_law_pairs : Stmt := topS 56
theorem sc_law_pairs : FnScope ["_law_table_so", "_law_own", "_law_tag"] ["_law_table_so"] (defScope s_law_pairs) := ⟨rfl, rfl, rfl, by decide +kernel, rfl, by decide +kernel, by decide +kernel⟩
def t_law_pairs : DS :=
  (dRet (dN tupD (dArgs [(dLc (dItems (dN sortD (dArgs [(dKeys 0 2)]))) (tgN 1) dYes (dTup [(dVar 1), (d2 dgetD (dVar 0) (dVar 1))]) [1])])))
def m_law_pairs : List PyData → Option PyData := runD 3 t_law_pairs
theorem ok_law_pairs (T : Bl mg) (F : DefAt K mg "_law_pairs" s_law_pairs) : DefOk P w K mg base CX0 1 "_law_pairs" ["_law_table_so"] (spD K 1 m_law_pairs) :=
  F.okD (N := ["_law_table_so", "_law_own", "_law_tag"]) (ps := ["_law_table_so"]) sc_law_pairs t_law_pairs (fun _ _ _ _ _ _ us hl => match us, hl with | [_], _ => rfl) (fun _ _ _ _ _ _ us hl => match us, hl with | [_], _ => rfl) fun f cdv A outer s H E hr =>
    (pds_one (pds_ret (pd_callTy call_tupD rfl T.tuple boot_tuple (pda_cons (pd_lc (own := [("_law_own", 1)]) rfl sc_law_pairs.nd (pdi_seq (pd_callB (call_sortD hr.units) rfl T.sorted boot_sorted (pda_cons (pd_keysStr (own := [("_law_tag", 2)]) (i := 0) (j := 2) rfl sc_law_pairs.nd rfl (by first | exact Or.inl rfl | exact Or.inr (Or.inl rfl) | exact Or.inr (Or.inr rfl)) (blkOk_by (own := [("_law_tag", 2)]) (N := ["_law_table_so", "_law_own", "_law_tag"]) (sc := (defScope s_law_pairs)) (by decide +kernel)) rfl (fun _ _ _ _ _ => (pdg_name (i := 2) sc_law_pairs.nd rfl (by first | exact Or.inl rfl | exact Or.inr rfl))) (fun _ _ _ _ _ => (pd_callTy call_strD rfl T.str boot_str (pda_cons (pd 2) pda_nil)))) pda_nil))) (blkOk_by (own := [("_law_own", 1)]) (N := ["_law_table_so", "_law_own", "_law_tag"]) (sc := (defScope s_law_pairs)) (by decide +kernel)) (by decide) (fun _ _ _ _ _ => (pdg_name (i := 1) sc_law_pairs.nd rfl (by first | exact Or.inl rfl | exact Or.inr rfl))) (fun _ _ _ _ _ => pdts_nil) (fun _ _ _ _ _ => (pd_tup (pda_cons (pd 1) (pda_cons (pd_dget (hu_of hr) (pd 0) (pd 1)) pda_nil))))) pda_nil))))
abbrev s_law_judged : Stmt := topS 58
theorem sc_law_judged : FnScope ["_law_one_so", "_law_two_so", "_law_thing_so", "_law_ends_so", "_law_dues_so", "_law_tag", "_law_amount_so", "_law_own", "_law_number_so"] ["_law_one_so", "_law_two_so", "_law_thing_so"] (defScope s_law_judged) := ⟨rfl, rfl, rfl, by decide +kernel, rfl, by decide +kernel, by decide +kernel⟩
def t_law_judged : DS :=
  (dSeq (dIfS (dOrT (dNotT (dB (d1 (isiD "tuple") (dVar 2)))) (dB (d2 neD (dN lenD (dArgs [(dVar 2)])) (dC (.int 3))))) (dRet (dC (.bool false))) dNext)
  (dSeq (dAsgG (tgT [4, 5, 6]) (dVar 2))
  (dSeq (dIfS (dB (d2 neD (dLc (dItems (dVar 4)) (tgT [7, 8]) dYes (dVar 7) [7, 8]) (dN lisD (dArgs [(d2 ixD (dVar 0) (dC (.int 0)))])))) (dRet (dC (.bool false))) dNext)
  (dSeq (dAsg 3 (dLc (dItems (dTup [(dVar 0), (dVar 1)])) (tgN 7) dYes (d2 ixD (dN m_law_lay (dArgs [(dVar 4), (d2 dgetD (dN dictD (dArgs [(d2 ixD (dVar 7) (dC (.int 1)))])) (dVar 5)), (dVar 6)])) (dC (.int 1))) [7]))
  (dRet (d2 neDictD (d2 ixD (dVar 3) (dC (.int 0))) (d2 ixD (dVar 3) (dC (.int 1)))))))))
def m_law_judged : List PyData → Option PyData := runD 9 t_law_judged
theorem ok_law_judged (T : Bl mg) (F : DefAt K mg "_law_judged" s_law_judged) (D_law_lay : DefOk P w K mg base CX0 1 "_law_lay" ["_law_dues_so", "_law_row_so", "_law_amount_so"] (spD K 3 m_law_lay)) : DefOk P w K mg base CX0 2 "_law_judged" ["_law_one_so", "_law_two_so", "_law_thing_so"] (spD K 3 m_law_judged) :=
  F.okD (N := ["_law_one_so", "_law_two_so", "_law_thing_so", "_law_ends_so", "_law_dues_so", "_law_tag", "_law_amount_so", "_law_own", "_law_number_so"]) (ps := ["_law_one_so", "_law_two_so", "_law_thing_so"]) sc_law_judged t_law_judged (fun _ _ _ _ _ _ us hl => match us, hl with | [_, _, _], _ => rfl) (fun _ _ _ _ _ _ us hl => match us, hl with | [_, _, _], _ => rfl) fun f cdv A outer s H E hr =>
    (pds_cons (pds_if (PW.pt (pdw_or (pdt_not (pdt_val (pd_isi rfl T.isinstance (pd 2) rfl T.tuple boot_tuple (by decide)))) (pdw_or1 (pdt_cmp (op_neDD hr.units) (pd_callB call_lenDD rfl T.len boot_len (pda_cons (pd 2) pda_nil)) pd_int)))) (pds_one (pds_ret pd_bl)) pds_nil)
      (pds_cons (pds_asgG (pd 2) (pdg_tup rfl (pdgs_cons (pdg_name (i := 4) sc_law_judged.nd rfl (by first | exact Or.inl rfl | exact Or.inr rfl)) (pdgs_cons (pdg_name (i := 5) sc_law_judged.nd rfl (by first | exact Or.inl rfl | exact Or.inr rfl)) (pdgs_cons (pdg_name (i := 6) sc_law_judged.nd rfl (by first | exact Or.inl rfl | exact Or.inr rfl)) pdgs_nil)))))
      (pds_cons (pds_if (pdt_cmp (op_neDD hr.units) (pd_lc (own := [("_law_own", 7), ("_law_number_so", 8)]) rfl sc_law_judged.nd (pdi_seq (pd 4)) (blkOk_by (own := [("_law_own", 7), ("_law_number_so", 8)]) (N := ["_law_one_so", "_law_two_so", "_law_thing_so", "_law_ends_so", "_law_dues_so", "_law_tag", "_law_amount_so", "_law_own", "_law_number_so"]) (sc := (defScope s_law_judged)) (by decide +kernel)) (by decide) (fun _ _ _ _ _ => (pdg_tup rfl (pdgs_cons (pdg_name (i := 7) sc_law_judged.nd rfl (by first | exact Or.inl rfl | exact Or.inr rfl)) (pdgs_cons (pdg_name (i := 8) sc_law_judged.nd rfl (by first | exact Or.inl rfl | exact Or.inr rfl)) pdgs_nil)))) (fun _ _ _ _ _ => pdts_nil) (fun _ _ _ _ _ => (pd 7))) (pd_callTy call_lisD rfl T.list boot_list (pda_cons (pd_ix ix_D (pd 0) pd_int) pda_nil))) (pds_one (pds_ret pd_bl)) pds_nil)
      (pds_cons (pds_setLc (i := 3) (own := [("_law_own", 7)]) rfl sc_law_judged.nd rfl rfl (sw_true rfl rfl rfl (by decide +kernel)) (pdi_seq (pd_tup (pda_cons (pd 0) (pda_cons (pd 1) pda_nil)))) (blkOk_by (own := [("_law_own", 7)]) (N := ["_law_one_so", "_law_two_so", "_law_thing_so", "_law_ends_so", "_law_dues_so", "_law_tag", "_law_amount_so", "_law_own", "_law_number_so"]) (sc := (defScope s_law_judged)) (by decide +kernel)) (by decide) (fun _ _ _ _ _ => (pdg_name (i := 7) sc_law_judged.nd rfl (by first | exact Or.inl rfl | exact Or.inr rfl))) (fun _ _ _ _ _ => pdts_nil) (fun _ _ _ _ _ => (pd_ix ix_D (pd_def D_law_lay (hr.mono (by decide)) rfl pass0 (pda_cons (pd 4) (pda_cons (pd_dget (hu_of hr) (pd_callTy (call_dictD rfl) rfl T.dict boot_dict (pda_cons (pd_ix ix_D (pd 7) pd_int) pda_nil)) (pd 5)) (pda_cons (pd 6) pda_nil)))) pd_int)))
      (pds_one (pds_ret (pd_cmp (op_neDict hr.units) (pd_ix ix_D (pd 3) pd_int) (pd_ix ix_D (pd 3) pd_int))))))))
abbrev s_law_all : Stmt := topS 60
theorem sc_law_all : FnScope ["_law_tags_so", "_law_lap", "_law_found", "_law_last", "_law_late", "_law_row_so", "_law_own"] ["_law_tags_so"] (defScope s_law_all) := ⟨rfl, rfl, rfl, by decide +kernel, rfl, by decide +kernel, by decide +kernel⟩
def t_law_all : DS :=
  (dSeq (dPar 2 3 (dLst [(dTup [])]) (dLst [(dTup [])]))
  (dSeq (dFor (dItems (dVar 0)) (tgN 1) (dSeq (dAsg 4 (dLst []))
  (dSeq (dFor (dItems (dVar 3)) (tgN 5) (dAsg 4 (d2 addD (dVar 4) (dLc (dItems (dVar 0)) (tgN 6) (dB (d2 notInD (dVar 6) (dVar 5))) (d2 addD (dVar 5) (dTup [(dVar 6)])) [6]))))
  (dPar 2 3 (d2 addD (dVar 2) (dVar 4)) (dVar 4)))))
  (dRet (dN sortD (dArgs [(dVar 2)])))))
def m_law_all : List PyData → Option PyData := runD 7 t_law_all
theorem ok_law_all (T : Bl mg) (F : DefAt K mg "_law_all" s_law_all) : DefOk P w K mg base CX0 1 "_law_all" ["_law_tags_so"] (spD K 1 m_law_all) :=
  F.okD (N := ["_law_tags_so", "_law_lap", "_law_found", "_law_last", "_law_late", "_law_row_so", "_law_own"]) (ps := ["_law_tags_so"]) sc_law_all t_law_all (fun _ _ _ _ _ _ us hl => match us, hl with | [_], _ => rfl) (fun _ _ _ _ _ _ us hl => match us, hl with | [_], _ => rfl) fun f cdv A outer s H E hr =>
    (pds_cons (pds_par (i := 2) (j := 3) rfl sc_law_all.nd rfl rfl (by decide) rfl rfl (pd_lst (pda_cons (pd_tup pda_nil) pda_nil)) (pd_lst (pda_cons (pd_tup pda_nil) pda_nil)) (by rfl))
      (pds_cons (pds_for PassesOwn.never rfl (pdi_seq (pd 0)) (pdg_name (i := 1) sc_law_all.nd rfl (by first | exact Or.inl rfl | exact Or.inr rfl)) (pds_cons (pds_set (i := 4) sc_law_all.nd rfl (by first | exact Or.inl rfl | exact Or.inr rfl) (pd_lst pda_nil))
      (pds_cons (pds_for PassesOwn.never rfl (pdi_seq (pd 3)) (pdg_name (i := 5) sc_law_all.nd rfl (by first | exact Or.inl rfl | exact Or.inr rfl)) (pds_one (pds_set (i := 4) sc_law_all.nd rfl (by first | exact Or.inl rfl | exact Or.inr rfl) (pd_op op_addD (pd 4) (pd_lc (own := [("_law_own", 6)]) rfl sc_law_all.nd (pdi_seq (pd 0)) (blkOk_by (own := [("_law_own", 6)]) (N := ["_law_tags_so", "_law_lap", "_law_found", "_law_last", "_law_late", "_law_row_so", "_law_own"]) (sc := (defScope s_law_all)) (by decide +kernel)) (by decide) (fun _ _ _ _ _ => (pdg_name (i := 6) sc_law_all.nd rfl (by first | exact Or.inl rfl | exact Or.inr rfl))) (fun _ _ _ _ _ => (pdts_one (pdt_cmp op_notInD (pd 6) (pd 5)))) (fun _ _ _ _ _ => (pd_op op_addD (pd 5) (pd_tup (pda_cons (pd 6) pda_nil)))))))))
      (pds_one (pds_par (i := 2) (j := 3) rfl sc_law_all.nd rfl rfl (by decide) rfl rfl (pd_op op_addD (pd 2) (pd 4)) (pd 4) (by rfl))))))
      (pds_one (pds_ret (pd_callB (call_sortD hr.units) rfl T.sorted boot_sorted (pda_cons (pd 2) pda_nil))))))
abbrev s_law_steps : Stmt := topS 61
theorem sc_law_steps : FnScope ["_law_one_so", "_law_two_so", "_law_ways_so", "_law_own", "_law_stays_so", "_law_row_so"] ["_law_one_so", "_law_two_so"] (defScope s_law_steps) := ⟨rfl, rfl, rfl, by decide +kernel, rfl, by decide +kernel, by decide +kernel⟩
def t_law_steps : DS :=
  (dSeq (dAsg 2 (dLst [(dTup [])]))
  (dSeq (dFor (dItems (dVar 0)) (tgN 3) (dAsg 2 (d2 addD (dVar 2) (dLc (dItems (dVar 2)) (tgN 5) dYes (d2 addD (dVar 5) (dTup [(dVar 3)])) [5]))))
  (dSeq (dAsg 4 (dLc (dItems (dVar 2)) (tgN 5) (dB (d2 eqD (dVar 5) (dN tupD (dArgs [(dLc (dItems (dVar 1)) (tgN 3) (dB (d2 inD (dVar 3) (dVar 5))) (dVar 3) [3])])))) (dVar 5) [5]))
  (dRet (d2 subD (d2 addD (dN lenD (dArgs [(dVar 0)])) (dN lenD (dArgs [(dVar 1)]))) (d2 mulD (dC (.int 2)) (dN maxD (dArgs [(dLc (dItems (dVar 4)) (tgN 5) dYes (dN lenD (dArgs [(dVar 5)])) [5])]))))))))
def m_law_steps : List PyData → Option PyData := runD 6 t_law_steps
theorem ok_law_steps (T : Bl mg) (F : DefAt K mg "_law_steps" s_law_steps) : DefOk P w K mg base CX0 1 "_law_steps" ["_law_one_so", "_law_two_so"] (spD K 2 m_law_steps) :=
  F.okD (N := ["_law_one_so", "_law_two_so", "_law_ways_so", "_law_own", "_law_stays_so", "_law_row_so"]) (ps := ["_law_one_so", "_law_two_so"]) sc_law_steps t_law_steps (fun _ _ _ _ _ _ us hl => match us, hl with | [_, _], _ => rfl) (fun _ _ _ _ _ _ us hl => match us, hl with | [_, _], _ => rfl) fun f cdv A outer s H E hr =>
    (pds_cons (pds_set (i := 2) sc_law_steps.nd rfl (by first | exact Or.inl rfl | exact Or.inr rfl) (pd_lst (pda_cons (pd_tup pda_nil) pda_nil)))
      (pds_cons (pds_for PassesOwn.never rfl (pdi_seq (pd 0)) (pdg_name (i := 3) sc_law_steps.nd rfl (by first | exact Or.inl rfl | exact Or.inr rfl)) (pds_one (pds_set (i := 2) sc_law_steps.nd rfl (by first | exact Or.inl rfl | exact Or.inr rfl) (pd_op op_addD (pd 2) (pd_lc (own := [("_law_row_so", 5)]) rfl sc_law_steps.nd (pdi_seq (pd 2)) (blkOk_by (own := [("_law_row_so", 5)]) (N := ["_law_one_so", "_law_two_so", "_law_ways_so", "_law_own", "_law_stays_so", "_law_row_so"]) (sc := (defScope s_law_steps)) (by decide +kernel)) (by decide) (fun _ _ _ _ _ => (pdg_name (i := 5) sc_law_steps.nd rfl (by first | exact Or.inl rfl | exact Or.inr rfl))) (fun _ _ _ _ _ => pdts_nil) (fun _ _ _ _ _ => (pd_op op_addD (pd 5) (pd_tup (pda_cons (pd 3) pda_nil)))))))))
      (pds_cons (pds_setLc (i := 4) (own := [("_law_row_so", 5)]) rfl sc_law_steps.nd rfl rfl (sw_true rfl rfl rfl (by decide +kernel)) (pdi_seq (pd 2)) (blkOk_by (own := [("_law_row_so", 5)]) (N := ["_law_one_so", "_law_two_so", "_law_ways_so", "_law_own", "_law_stays_so", "_law_row_so"]) (sc := (defScope s_law_steps)) (by decide +kernel)) (by decide) (fun _ _ _ _ _ => (pdg_name (i := 5) sc_law_steps.nd rfl (by first | exact Or.inl rfl | exact Or.inr rfl))) (fun _ _ _ _ _ => (pdts_one (pdt_cmp (op_eqDD hr.units) (pd 5) (pd_callTy call_tupD rfl T.tuple boot_tuple (pda_cons (pd_lc (own := [("_law_own", 3)]) rfl sc_law_steps.nd (pdi_seq (pd 1)) (blkOk_by (own := [("_law_own", 3)]) (N := ["_law_one_so", "_law_two_so", "_law_ways_so", "_law_own", "_law_stays_so", "_law_row_so"]) (by rfl)) (by decide) (fun _ _ _ _ _ => (pdg_name (i := 3) sc_law_steps.nd rfl (by first | exact Or.inl rfl | exact Or.inr rfl))) (fun _ _ _ _ _ => (pdts_one (pdt_cmp op_inD (pd 3) (pd 5)))) (fun _ _ _ _ _ => (pd 3))) pda_nil))))) (fun _ _ _ _ _ => (pd 5)))
      (pds_one (pds_ret (pd_op op_subD (pd_op op_addD (pd_callB call_lenDD rfl T.len boot_len (pda_cons (pd 0) pda_nil)) (pd_callB call_lenDD rfl T.len boot_len (pda_cons (pd 1) pda_nil))) (pd_op op_mulD pd_int (pd_callB (call_maxD rfl) rfl T.max boot_max (pda_cons (pd_lc (own := [("_law_row_so", 5)]) rfl sc_law_steps.nd (pdi_seq (pd 4)) (blkOk_by (own := [("_law_row_so", 5)]) (N := ["_law_one_so", "_law_two_so", "_law_ways_so", "_law_own", "_law_stays_so", "_law_row_so"]) (sc := (defScope s_law_steps)) (by decide +kernel)) (by decide) (fun _ _ _ _ _ => (pdg_name (i := 5) sc_law_steps.nd rfl (by first | exact Or.inl rfl | exact Or.inr rfl))) (fun _ _ _ _ _ => pdts_nil) (fun _ _ _ _ _ => (pd_callB call_lenDD rfl T.len boot_len (pda_cons (pd 5) pda_nil)))) pda_nil)))))))))
abbrev s_law_nearest : Stmt := topS 62
theorem sc_law_nearest : FnScope ["_law_books", "_law_tags_so", "_law_tag", "_law_row_so", "_law_least", "_law_found", "_law_far", "_law_k", "_law_own", "_law_near"] ["_law_books", "_law_tags_so", "_law_tag"] (defScope s_law_nearest) := ⟨rfl, rfl, rfl, by decide +kernel, rfl, by decide +kernel, by decide +kernel⟩
def t_law_nearest : DS :=
  (dSeq (dPar 5 6 (dLst []) (dLc (dItems (dN sortD (dArgs [(dKeys 0 9)]))) (tgN 8) (dB (d2 neD (dVar 8) (dVar 2))) (d2 dgetD (dVar 0) (dVar 8)) [8]))
  (dSeq (dFor (dEnumA (dVar 6)) (tgT [7, 3]) (dIfS (dB (d2 neD (dLc (dItems (dSl (dVar 6) dNo (dPart (dVar 7)))) (tgN 8) (dNotT (dB (dN m_law_fit (dArgs [(dVar 8), (dVar 3)])))) (dVar 8) [8]) (dLst []))) (dRet (dC .none)) dNext))
  (dSeq (dFor (dItems (dN m_law_all (dArgs [(dVar 1)]))) (tgN 3) (dIfS (dB (d2 eqD (dLc (dItems (dVar 6)) (tgN 8) (dNotT (dB (dN m_law_fit (dArgs [(dVar 8), (dVar 3)])))) (dVar 8) [8]) (dLst []))) (dAsg 5 (d2 addD (dVar 5) (dLst [(dTup [(dN m_law_steps (dArgs [(d2 dgetD (dVar 0) (dVar 2)), (dVar 3)])), (dVar 3)])]))) dNext))
  (dSeq (dAsg 4 (dN minD (dArgs [(dLc (dItems (dVar 5)) (tgN 8) dYes (d2 ixD (dVar 8) (dC (.int 0))) [8])])))
  (dRet (dTup [(dVar 4), (dLc (dItems (dVar 5)) (tgN 8) (dB (d2 eqD (d2 ixD (dVar 8) (dC (.int 0))) (dVar 4))) (d2 ixD (dVar 8) (dC (.int 1))) [8])]))))))
def m_law_nearest : List PyData → Option PyData := runD 10 t_law_nearest
theorem ok_law_nearest (T : Bl mg) (F : DefAt K mg "_law_nearest" s_law_nearest) (D_law_all : DefOk P w K mg base CX0 1 "_law_all" ["_law_tags_so"] (spD K 1 m_law_all)) (D_law_fit : DefOk P w K mg base CX0 2 "_law_fit" ["_law_one_so", "_law_other_so"] (spD K 2 m_law_fit)) (D_law_steps : DefOk P w K mg base CX0 1 "_law_steps" ["_law_one_so", "_law_two_so"] (spD K 2 m_law_steps)) : DefOk P w K mg base CX0 3 "_law_nearest" ["_law_books", "_law_tags_so", "_law_tag"] (spD K 3 m_law_nearest) :=
  F.okD (N := ["_law_books", "_law_tags_so", "_law_tag", "_law_row_so", "_law_least", "_law_found", "_law_far", "_law_k", "_law_own", "_law_near"]) (ps := ["_law_books", "_law_tags_so", "_law_tag"]) sc_law_nearest t_law_nearest (fun _ _ _ _ _ _ us hl => match us, hl with | [_, _, _], _ => rfl) (fun _ _ _ _ _ _ us hl => match us, hl with | [_, _, _], _ => rfl) fun f cdv A outer s H E hr =>
    (pds_cons (pds_par (i := 5) (j := 6) rfl sc_law_nearest.nd rfl rfl (by decide) rfl rfl (pd_lst pda_nil) (pd_lc (own := [("_law_own", 8)]) rfl sc_law_nearest.nd (pdi_seq (pd_callB (call_sortD hr.units) rfl T.sorted boot_sorted (pda_cons (pd_keysStr (own := [("_law_near", 9)]) (i := 0) (j := 9) rfl sc_law_nearest.nd rfl (by first | exact Or.inl rfl | exact Or.inr (Or.inl rfl) | exact Or.inr (Or.inr rfl)) (blkOk_by (own := [("_law_near", 9)]) (N := ["_law_books", "_law_tags_so", "_law_tag", "_law_row_so", "_law_least", "_law_found", "_law_far", "_law_k", "_law_own", "_law_near"]) (sc := (defScope s_law_nearest)) (by decide +kernel)) rfl (fun _ _ _ _ _ => (pdg_name (i := 9) sc_law_nearest.nd rfl (by first | exact Or.inl rfl | exact Or.inr rfl))) (fun _ _ _ _ _ => (pd_callTy call_strD rfl T.str boot_str (pda_cons (pd 9) pda_nil)))) pda_nil))) (blkOk_by (own := [("_law_own", 8)]) (N := ["_law_books", "_law_tags_so", "_law_tag", "_law_row_so", "_law_least", "_law_found", "_law_far", "_law_k", "_law_own", "_law_near"]) (sc := (defScope s_law_nearest)) (by decide +kernel)) (by decide) (fun _ _ _ _ _ => (pdg_name (i := 8) sc_law_nearest.nd rfl (by first | exact Or.inl rfl | exact Or.inr rfl))) (fun _ _ _ _ _ => (pdts_one (pdt_cmp (op_neDD hr.units) (pd 8) (pd 2)))) (fun _ _ _ _ _ => (pd_dget (hu_of hr) (pd 0) (pd 8)))) (by rfl))
      (pds_cons (pds_for PassesOwn.never rfl (pdi_enumA rfl T.enumerate (pd 6)) (pdg_tupW rfl (pdgs_cons (pdg_name (i := 7) sc_law_nearest.nd rfl (by first | exact Or.inl rfl | exact Or.inr rfl)) (pdgs_cons (pdg_name (i := 3) sc_law_nearest.nd rfl (by first | exact Or.inl rfl | exact Or.inr rfl)) pdgs_nil))) (pds_one (pds_if (pdt_cmp (op_neDD hr.units) (pd_lc (own := [("_law_own", 8)]) rfl sc_law_nearest.nd (pdi_seq (pd_slice (pd 6) pdo_none (pdo_some (pd 7)))) (blkOk_by (own := [("_law_own", 8)]) (N := ["_law_books", "_law_tags_so", "_law_tag", "_law_row_so", "_law_least", "_law_found", "_law_far", "_law_k", "_law_own", "_law_near"]) (sc := (defScope s_law_nearest)) (by decide +kernel)) (by decide) (fun _ _ _ _ _ => (pdg_name (i := 8) sc_law_nearest.nd rfl (by first | exact Or.inl rfl | exact Or.inr rfl))) (fun _ _ _ _ _ => (pdts_one (pdt_not (pdt_val (pd_def D_law_fit (hr.mono (by decide)) rfl pass0 (pda_cons (pd 8) (pda_cons (pd 3) pda_nil))))))) (fun _ _ _ _ _ => (pd 8))) (pd_lst pda_nil)) (pds_one (pds_ret pd_non)) pds_nil)))
      (pds_cons (pds_for PassesOwn.never rfl (pdi_seq (pd_def D_law_all (hr.mono (by decide)) rfl pass0 (pda_cons (pd 1) pda_nil))) (pdg_name (i := 3) sc_law_nearest.nd rfl (by first | exact Or.inl rfl | exact Or.inr rfl)) (pds_one (pds_if (pdt_cmp (op_eqDD hr.units) (pd_lc (own := [("_law_own", 8)]) rfl sc_law_nearest.nd (pdi_seq (pd 6)) (blkOk_by (own := [("_law_own", 8)]) (N := ["_law_books", "_law_tags_so", "_law_tag", "_law_row_so", "_law_least", "_law_found", "_law_far", "_law_k", "_law_own", "_law_near"]) (sc := (defScope s_law_nearest)) (by decide +kernel)) (by decide) (fun _ _ _ _ _ => (pdg_name (i := 8) sc_law_nearest.nd rfl (by first | exact Or.inl rfl | exact Or.inr rfl))) (fun _ _ _ _ _ => (pdts_one (pdt_not (pdt_val (pd_def D_law_fit (hr.mono (by decide)) rfl pass0 (pda_cons (pd 8) (pda_cons (pd 3) pda_nil))))))) (fun _ _ _ _ _ => (pd 8))) (pd_lst pda_nil)) (pds_one (pds_set (i := 5) sc_law_nearest.nd rfl (by first | exact Or.inl rfl | exact Or.inr rfl) (pd_op op_addD (pd 5) (pd_lst (pda_cons (pd_tup (pda_cons (pd_def D_law_steps (hr.mono (by decide)) rfl pass0 (pda_cons (pd_dget (hu_of hr) (pd 0) (pd 2)) (pda_cons (pd 3) pda_nil))) (pda_cons (pd 3) pda_nil))) pda_nil))))) pds_nil)))
      (pds_cons (pds_set (i := 4) sc_law_nearest.nd rfl (by first | exact Or.inl rfl | exact Or.inr rfl) (pd_callB (call_minD rfl) rfl T.min boot_min (pda_cons (pd_lc (own := [("_law_own", 8)]) rfl sc_law_nearest.nd (pdi_seq (pd 5)) (blkOk_by (own := [("_law_own", 8)]) (N := ["_law_books", "_law_tags_so", "_law_tag", "_law_row_so", "_law_least", "_law_found", "_law_far", "_law_k", "_law_own", "_law_near"]) (sc := (defScope s_law_nearest)) (by decide +kernel)) (by decide) (fun _ _ _ _ _ => (pdg_name (i := 8) sc_law_nearest.nd rfl (by first | exact Or.inl rfl | exact Or.inr rfl))) (fun _ _ _ _ _ => pdts_nil) (fun _ _ _ _ _ => (pd_ix ix_D (pd 8) pd_int))) pda_nil)))
      (pds_one (pds_ret (pd_tup (pda_cons (pd 4) (pda_cons (pd_lc (own := [("_law_own", 8)]) rfl sc_law_nearest.nd (pdi_seq (pd 5)) (blkOk_by (own := [("_law_own", 8)]) (N := ["_law_books", "_law_tags_so", "_law_tag", "_law_row_so", "_law_least", "_law_found", "_law_far", "_law_k", "_law_own", "_law_near"]) (sc := (defScope s_law_nearest)) (by decide +kernel)) (by decide) (fun _ _ _ _ _ => (pdg_name (i := 8) sc_law_nearest.nd rfl (by first | exact Or.inl rfl | exact Or.inr rfl))) (fun _ _ _ _ _ => (pdts_one (pdt_cmp (op_eqDD hr.units) (pd_ix ix_D (pd 8) pd_int) (pd 4)))) (fun _ _ _ _ _ => (pd_ix ix_D (pd 8) pd_int))) pda_nil)))))))))
-- levels {'x': 1, 'is_number': 1, 'is_amount': 2, 'is_name': 1, 'is_pair': 1, 'set_of': 1, 'tupled': 8, 'bills': 9, 'payers': 1, 'lists_table': 9, 'check_payer': 2, 'check_bills': 10, 'list_of': 10, 'with_table': 2, 'with_list': 11, 'are_amounts': 3, 'is_dues': 10, 'sum_of': 1, 'rest_of': 1, 'odd_bills': 9, 'agree': 10, 'odd_pairs': 11, 'is_good': 12, 'good_with': 13, 'lay_on': 1, 'laid': 11, 'fewest_steps': 1, 'all_lists': 1, '_law_lay': 1, 'check_same': 10, 'nearest_lists': 14, 'unlike_payers': 11, 'parting_payment': 12, 'is_parting_payment': 12, '_law_lists': 8, '_law_same': 8, '_law_rest': 1, '_law_fit': 2, '_law_bills': 1, '_law_pairs': 1, '_law_judged': 2, '_law_all': 1, '_law_steps': 1, '_law_nearest': 3}
end
end Od
end
section
set_option maxHeartbeats 2000000
/-! OdInt: *, //, %, ** of whole numbers; the law's draws. -/
namespace Od
open PySem PySem.Spec PyProof.Rows L2
def mulZ : PyData → PyData → Option PyData
  | .int i, .int j => if (-(2 ^ 64) < i ∧ i < 2 ^ 64) ∨ (-(2 ^ 64) < j ∧ j < 2 ^ 64) then some (.int (i * j)) else none
  | _, _ => none
def modD : PyData → PyData → Option PyData
  | .int i, .int j => if 0 < j then some (.int (i % j)) else none
  | _, _ => none
def fdivD : PyData → PyData → Option PyData
  | .int i, .int j => if 0 < j ∧ j < 1073741824 then some (.int (i / j)) else none
  | _, _ => none
def powD : PyData → PyData → Option PyData
  | .int i, .int j => if 0 ≤ j ∧ j ≤ 1000000 ∧ i.natAbs < 2 ^ 64 then some (.int (i ^ j.toNat)) else none
  | _, _ => none
section
variable {X : Cx}
theorem op_ints {f : Value → Value → Sem Value} {C : Int → Int → Prop} {r : Int → Int → Int} {g : PyData → PyData → Option PyData} (ho : OpR X f (rI C fun i j => .int (r i j))) (hg : ∀ x y d, g x y = some d → ∃ i j, x = .int i ∧ y = .int j ∧ C i j ∧ d = .int (r i j)) : OpR X f (rD2 X.K g) := OpR.imp ho fun x y H Q h => by
  obtain ⟨G, dx, dy, d, vw, hx, hy, e, k⟩ := h
  obtain ⟨i, j, rfl, rfl, c, rfl⟩ := hg _ _ _ e
  cases hx
  cases hy
  exact ⟨_, _, rfl, rfl, c, k _ G H (Nxt.refl vw) (.int _)⟩
theorem op_mulZ : OpR X (binaryOp .Mult) (rD2 X.K mulZ) := op_ints op_mul fun x y d e => by
  unfold mulZ at e
  split at e
  · split at e
    · rename_i h
      cases e
      exact ⟨_, _, rfl, rfl, h, rfl⟩
    · cases e
  · cases e
theorem op_modD : OpR X (binaryOp .Mod) (rD2 X.K modD) := op_ints op_mod fun x y d e => by
  unfold modD at e
  split at e
  · split at e
    · rename_i h
      cases e
      exact ⟨_, _, rfl, rfl, h, rfl⟩
    · cases e
  · cases e
theorem op_fdivD : OpR X (binaryOp .FloorDiv) (rD2 X.K fdivD) := op_ints op_fdiv fun x y d e => by
  unfold fdivD at e
  split at e
  · split at e
    · rename_i h
      cases e
      exact ⟨_, _, rfl, rfl, h, rfl⟩
    · cases e
  · cases e
theorem op_powD : OpR X (binaryOp .Pow) (rD2 X.K powD) := op_ints op_pow fun x y d e => by
  unfold powD at e
  split at e
  · split at e
    · rename_i h
      cases e
      exact ⟨_, _, rfl, rfl, h, rfl⟩
    · cases e
  · cases e
end
end Od
end
section
set_option maxHeartbeats 4000000
/-! OdTake: the law's draws. -/
namespace Od
open PySem PySem.Spec PyProof.Rows L2
def takeTail : DS :=
  (dSeq (dAsg 2 (d2 modD (dN intD (dArgs [(d2 mulZ (d2 addD (d2 ixD (dVar 0) (dC (.int 1))) (d2 mulZ (dC (.int 48271)) (d2 ixD (dVar 0) (dC (.int 2))))) (d2 addD (dC (.int 39373)) (d2 ixD (dVar 0) (dC (.int 2)))))])) (dC (.int 2147483647))))
  (dSeq (dAsg 3 (d2 addD (d2 modD (dN intD (dArgs [(dVar 2)])) (dC (.int 40009))) (dC (.int 7))))
  (dSeq (dAsg 4 (d2 modD (dN intD (dArgs [(d2 mulZ (d2 addD (d2 addD (dVar 2) (d2 ixD (dVar 0) (dC (.int 2)))) (d2 fdivD (d2 ixD (dVar 0) (dC (.int 1))) (dC (.int 1000003)))) (dVar 3))])) (dC (.int 2147483629))))
  (dRet (d2 modD (dN intD (dArgs [(d2 fdivD (d2 modD (dN intD (dArgs [(d2 addD (d2 mulZ (dVar 4) (dC (.int 48271))) (dVar 2))])) (dC (.int 2147483587))) (dC (.int 64)))])) (dVar 1))))))
theorem seq_asg {i : Nat} {t : DE} {u : DS} {ρ : DEnv} {d : PyData} {o : Option Out} (h : t ρ = some d) (k : u (ρ.set i (some d)) = o) : dSeq (dAsg i t) u ρ = o := by
  unfold dSeq dAsg
  rw [h]
  exact k
theorem ret_of {t : DE} {ρ : DEnv} {d : PyData} (h : t ρ = some d) : dRet t ρ = some (.rt d) := by
  unfold dRet
  rw [h]
theorem take_tail (a b c low : Int) (hc : 0 ≤ c) (hc2 : c ≤ 1000000000000) (hl : 0 < low) : ∃ r, takeTail [some (.list [.int a, .int b, .int c]), some (.int low), none, none, none, none] = some (.rt (.int r)) ∧ 0 ≤ r ∧ r < low := by
  have i0 : ixD (.list [.int a, .int b, .int c]) (.int 1) = some (.int b) := rfl
  have i1 : ixD (.list [.int a, .int b, .int c]) (.int 2) = some (.int c) := rfl
  generalize hu : PyData.list [.int a, .int b, .int c] = urn at i0 i1 ⊢
  have m1 : ∀ x y : Int, (-(2 ^ 64) < x ∧ x < 2 ^ 64) → mulZ (.int x) (.int y) = some (.int (x * y)) := fun x y h => if_pos (.inl h)
  have m2 : ∀ x y : Int, (-(2 ^ 64) < y ∧ y < 2 ^ 64) → mulZ (.int x) (.int y) = some (.int (x * y)) := fun x y h => if_pos (.inr h)
  have md : ∀ x y : Int, 0 < y → modD (.int x) (.int y) = some (.int (x % y)) := fun x y h => if_pos h
  have fd : ∀ x y : Int, 0 < y ∧ y < 1073741824 → fdivD (.int x) (.int y) = some (.int (x / y)) := fun x y h => if_pos h
  have ad : ∀ x y : Int, addD (.int x) (.int y) = some (.int (x + y)) := fun x y => rfl
  have it : ∀ x : Int, intD [.int x] = some (.int x) := fun x => rfl
  -- once
  generalize ho : (b + 48271 * c) * (39373 + c) % 2147483647 = once
  have e1 : (d2 modD (dN intD (dArgs [(d2 mulZ (d2 addD (d2 ixD (dVar 0) (dC (.int 1))) (d2 mulZ (dC (.int 48271)) (d2 ixD (dVar 0) (dC (.int 2))))) (d2 addD (dC (.int 39373)) (d2 ixD (dVar 0) (dC (.int 2)))))])) (dC (.int 2147483647))) [some urn, some (.int low), none, none, none, none] = some (.int once) := by
    simp only [d2, dN, dArgs, dVar, dC, List.getElem?_cons_zero, i0, i1, m1 48271 c ⟨by decide, by decide⟩, ad, m2 (b + 48271 * c) (39373 + c) ⟨by omega, by omega⟩, it, md _ 2147483647 (by decide), ho]
  have ho1 : 0 ≤ once ∧ once < 2147483647 := by
    rw [← ho]
    exact ⟨Int.emod_nonneg _ (by decide), Int.emod_lt_of_pos _ (by decide)⟩
  generalize hf : once % 40009 + 7 = far
  have e2 : (d2 addD (d2 modD (dN intD (dArgs [(dVar 2)])) (dC (.int 40009))) (dC (.int 7))) [some urn, some (.int low), some (.int once), none, none, none] = some (.int far) := by
    simp only [d2, dN, dArgs, dVar, dC, List.getElem?_cons_zero, List.getElem?_cons_succ, it, md once 40009 (by decide), ad, hf]
  have hf1 : 0 ≤ far ∧ far < 100000 := by
    have q1 := Int.emod_nonneg once (show (40009 : Int) ≠ 0 by decide)
    have q2 := Int.emod_lt_of_pos once (show (0 : Int) < 40009 by decide)
    omega
  generalize ht : (once + c + b / 1000003) * far % 2147483629 = twice
  have e3 : (d2 modD (dN intD (dArgs [(d2 mulZ (d2 addD (d2 addD (dVar 2) (d2 ixD (dVar 0) (dC (.int 2)))) (d2 fdivD (d2 ixD (dVar 0) (dC (.int 1))) (dC (.int 1000003)))) (dVar 3))])) (dC (.int 2147483629))) [some urn, some (.int low), some (.int once), some (.int far), none, none] = some (.int twice) := by
    simp only [d2, dN, dArgs, dVar, dC, List.getElem?_cons_zero, List.getElem?_cons_succ, i0, i1, it, fd b 1000003 ⟨by decide, by decide⟩, ad, m2 (once + c + b / 1000003) far ⟨by omega, by omega⟩, md _ 2147483629 (by decide), ht]
  generalize hr : (twice * 48271 + once) % 2147483587 / 64 % low = r
  have e4 : (d2 modD (dN intD (dArgs [(d2 fdivD (d2 modD (dN intD (dArgs [(d2 addD (d2 mulZ (dVar 4) (dC (.int 48271))) (dVar 2))])) (dC (.int 2147483587))) (dC (.int 64)))])) (dVar 1)) [some urn, some (.int low), some (.int once), some (.int far), some (.int twice), none] = some (.int r) := by
    simp only [d2, dN, dArgs, dVar, dC, List.getElem?_cons_zero, List.getElem?_cons_succ, it, m2 twice 48271 ⟨by decide, by decide⟩, ad, md _ 2147483587 (by decide), fd _ 64 ⟨by decide, by decide⟩, md _ low hl, hr]
  refine ⟨r, ?_, ?_, ?_⟩
  · exact seq_asg e1 (seq_asg e2 (seq_asg e3 (ret_of e4)))
  · rw [← hr]
    exact Int.emod_nonneg _ (by omega)
  · rw [← hr]
    exact Int.emod_lt_of_pos _ hl
/-- a draw below low: the urn at u changes, its second number stands -/
def spTake (K : PySem.W.Frag) : Sp := fun vs H Q _ => ∃ u low a b c G, vs = [.ref u, .int low] ∧ Same G H ∧ G u = none ∧ H u = some (.lst [.int a, .int b, .int c]) ∧ 0 < low ∧ low ≤ 1000 ∧ 0 ≤ c ∧ c < 1000000000000 ∧
  ∀ r a' c' H', 0 ≤ r → r < low → 0 ≤ c' → c' ≤ c + 1 → NxtM [u] G H G H' → H' u = some (.lst [.int a', .int b, .int c']) → Q (.int r) H'
abbrev s_law_take : Stmt := topS 46
theorem sc_law_take : FnScope ["_law_urn", "_law_low_so", "_law_once", "_law_far", "_law_twice", "_law_drawn"] ["_law_urn", "_law_low_so"] (defScope s_law_take) := ⟨rfl, rfl, rfl, by decide +kernel, rfl, by decide +kernel, by decide +kernel⟩
section
variable {P : Program} {w : World} {K : PySem.W.Frag} {mg : Str → Option Value} {base : Heap}
theorem ok_law_take (T : Bl mg) (F : DefAt K mg "_law_take" s_law_take) : DefOk P w K mg base CX0 1 "_law_take" ["_law_urn", "_law_low_so"] (spTake K) := by
  refine F.okH (N := ["_law_urn", "_law_low_so", "_law_once", "_law_far", "_law_twice", "_law_drawn"]) (ps := ["_law_urn", "_law_low_so"]) sc_law_take (fun _ _ _ _ _ _ us hl => match us, hl with | [_, _], _ => rfl) (fun _ _ _ _ _ _ us hl => match us, hl with | [_, _], _ => rfl) (fun vs H Q E ⟨u, low, a, b, c, G, h, _⟩ => by rw [h] <;> rfl) fun f cdv A outer s H vs Q E hr h => ?_
  refine ⟨_, pss_cons (ps_if (pdt_cmp op_gtD (pd_ix ix_D (pd 0) pd_int) pd_int)
      (pss_cons (pds_set (F := [0, 1]) (i := 5) sc_law_take.nd rfl (by first | exact Or.inl rfl | exact Or.inr rfl) (pd_op op_modD (pd_callTy call_intD rfl T.int boot_int (pda_cons (pd_ix ix_D (pd 0) pd_int) pda_nil)) (pd 1)))
      (pss_cons (ps_asg (pd_op op_fdivD (pd_ix ix_D (pd 0) pd_int) (pd 1)) (pg_sub (pv 0) pe_int set_list))
      (pss_one (ps_ret (pv 5))))) pss_nil)
    (pss_cons (ps_asg (pd_op op_addD (pd_ix ix_D (pd 0) pd_int) pd_int) (pg_sub (pv 0) pe_int set_list))
    (pds_cons (F := []) (pds_set (i := 2) sc_law_take.nd rfl (by first | exact Or.inl rfl | exact Or.inr rfl) (pd_op op_modD (pd_callTy call_intD rfl T.int boot_int (pda_cons (pd_op op_mulZ (pd_op op_addD (pd_ix ix_D (pd 0) pd_int) (pd_op op_mulZ pd_int (pd_ix ix_D (pd 0) pd_int))) (pd_op op_addD pd_int (pd_ix ix_D (pd 0) pd_int))) pda_nil)) pd_int))
    (pds_cons (pds_set (i := 3) sc_law_take.nd rfl (by first | exact Or.inl rfl | exact Or.inr rfl) (pd_op op_addD (pd_op op_modD (pd_callTy call_intD rfl T.int boot_int (pda_cons (pd 2) pda_nil)) pd_int) pd_int))
    (pds_cons (pds_set (i := 4) sc_law_take.nd rfl (by first | exact Or.inl rfl | exact Or.inr rfl) (pd_op op_modD (pd_callTy call_intD rfl T.int boot_int (pda_cons (pd_op op_mulZ (pd_op op_addD (pd_op op_addD (pd 2) (pd_ix ix_D (pd 0) pd_int)) (pd_op op_fdivD (pd_ix ix_D (pd 0) pd_int) pd_int)) (pd 3)) pda_nil)) pd_int))
    (pds_one (pds_ret (pd_op op_modD (pd_callTy call_intD rfl T.int boot_int (pda_cons (pd_op op_fdivD (pd_op op_modD (pd_callTy call_intD rfl T.int boot_int (pda_cons (pd_op op_addD (pd_op op_mulZ (pd 4) pd_int) (pd 2)) pda_nil)) pd_int) pd_int) pda_nil)) (pd 1)))))))), ?_⟩
  obtain ⟨u, low, a, b, c, G, rfl, vw, gu, hu, hl, hl2, hc, hc2, q⟩ := h
  have rl : ∀ (G : Hp) (a b c : Int), RpAll K G [.int a, .int b, .int c] [.int a, .int b, .int c] := fun G a b c => .cons (.int _) (.cons (.int _) (.cons (.int _) .nil))
  have so : ∀ {H : Hp} {σ : L2.St} {a b c : Int}, σ.length = 6 → σ[0]? = some (some (.ref u)) → σ[1]? = some (some (.int low)) → Sl K (upd G u (.lst [.int a, .int b, .int c])) σ [some (.list [.int a, .int b, .int c]), some (.int low), none, none, none, none] := fun hl h0 h1 =>
    ((Sl.none_ hl).add (i := 0) h0 (.lst upd_same (rl _ _ _ _))).add (i := 1) h1 (.int low)
  have n0 : NxtM [u] G H G H := NxtM.refl vw fun b hb => by rw [List.mem_singleton.mp hb]; exact gu
  refine liT_open (b := decide (0 < a)) (same_open vw hu) (so (H := H) rfl rfl rfl) rfl fun H1 h1 => ?_
  have hu1 := h1 _ _ hu
  have n1 := n0.grow h1
  by_cases ha : 0 < a
  · rw [show decide (0 < a) = true from decide_eq_true ha]
    refine iteT ?_
    refine ⟨_, _, .nx [some (.list [.int a, .int b, .int c]), some (.int low), none, none, none, some (.int (a % low))], same_open n1.v hu1, so (H := H1) rfl rfl rfl, ?_, fun σ2 G2 H2 n2 s2 f2 => ?_⟩
    · have e : (d2 modD (dN intD (dArgs [d2 ixD (dVar 0) (dC (.int 0))])) (dVar 1)) [some (.list [.int a, .int b, .int c]), some (.int low), none, none, none, none] = some (.int (a % low)) := by
        show (if 0 < low then some (PyData.int (a % low)) else none) = _
        rw [if_pos hl]
      unfold dAsg
      rw [e]
      rfl
    have z0 : σ2[0]? = some (some (.ref u)) := f2 0 (by decide)
    have z1 : σ2[1]? = some (some (.int low)) := f2 1 (by decide)
    obtain ⟨v5, z5, r5⟩ := s2.at_ 5 (.int (a % low)) rfl
    cases r5
    have l2 : σ2.length = 6 := s2.len
    have hu2 := n2.h _ _ hu1
    have n3 := n1.grow n2.h
    refine liE_open (d := .int (a / low)) (same_open n3.v hu2) (so (H := H2) l2 z0 z1) ?_ rfl fun v3 H3 h3 rv3 => ?_
    · show (if 0 < low ∧ low < 1073741824 then some (PyData.int (a / low)) else none) = _
      rw [if_pos ⟨hl, by omega⟩]
    have rv := rv3 G
    cases rv
    have hu3 := h3 _ _ hu2
    refine ⟨.ref u, z0, u, _, 0, 0, rfl, rfl, hu3, rfl, .int (a % low), z5, ?_⟩
    exact q (a % low) (a / low) c _ (Int.emod_nonneg _ (by omega)) (Int.emod_lt_of_pos _ hl) hc (by omega) ((n3.grow h3).write (.inl (List.mem_singleton.mpr rfl)) gu) upd_same
  · rw [show decide (0 < a) = false from decide_eq_false ha]
    refine iteF ?_
    refine liE_open (d := .int (c + 1)) (same_open n1.v hu1) (so (H := H1) rfl rfl rfl) rfl rfl fun v2 H2 h2 rv2 => ?_
    have rv := rv2 G
    cases rv
    have hu2 := h2 _ _ hu1
    refine ⟨.ref u, rfl, u, _, 2, 2, rfl, rfl, hu2, rfl, ?_⟩
    have n3 : NxtM [u] G H G (upd H2 u (.lst [.int a, .int b, .int (c + 1)])) := (n1.grow h2).write (.inl (List.mem_singleton.mpr rfl)) gu
    obtain ⟨r, e, r0, r1⟩ := take_tail a b (c + 1) low (by omega) (by omega) hl
    refine ⟨_, _, .rt (.int r), same_open n3.v upd_same, so (H := H2) rfl rfl rfl, e, fun v4 G4 H4 n4 r4 => ?_⟩
    cases r4
    exact q r a (c + 1) H4 r0 r1 (by omega) (by omega) (n3.grow n4.h) (n4.h _ _ upd_same)
end
end Od
end
section
set_option maxHeartbeats 4000000
/-! OdRow: the law's drawn lists. -/
namespace Od
open PySem PySem.Spec PyProof.Rows L2
/-- a list made with effects: its steps told by hand -/
theorem lc_hand {R : Hp → V → PyData → Prop} {J : It} {ds : List PyData} {vs : List Nat} {g : TG} {tt : TT} {te : TE} {σ : L2.St} {G0 H : Hp} {D : Addr} {Q : Hp → Prop} (Pv : Nat → Hp → Hp → List V → Prop) (w : WalkD R J ds G0) (h0 : Pv 0 G0 (upd H D (.lst [])) []) (vw : ∀ i G H acc, Pv i G H acc → Same G0 G ∧ Same G H)
    (step : ∀ i d G H acc, ds[i]? = some d → Pv i G H acc → ∀ x G' H', Nxt G H G' H' → R G' x d → g x (L2.wipe σ vs) H' fun σ2 H2 => L2.wipe σ2 vs = L2.wipe σ vs ∧ tt σ2 H2 fun b H3 =>
      if b = true then te σ2 H3 fun y H4 => ∃ acc, H4 D = some (.lst acc) ∧ acc.length < sizeLine ∧ ∃ G4 acc', Pv (i + 1) G4 (upd H4 D (.lst (acc ++ [y]))) acc' else ∃ G4 acc', Pv (i + 1) G4 H3 acc')
    (fin : ∀ G H acc, Pv ds.length G H acc → Q H) :
    ∃ W : Nat → Nat → Hp → Prop, (∃ m, W 0 m (upd H D (.lst []))) ∧ ∀ i m H, W i m H →
      (J.stop i H ∧ Q H) ∨ (J.go i H ∧ ∃ Nx : Hp → Prop, (∀ H', Nx H' → ∃ m', m' < m ∧ W (i + 1) m' H') ∧ ∀ x H', J.yld i H x H' → g x (L2.wipe σ vs) H' fun σ2 H2 => L2.wipe σ2 vs = L2.wipe σ vs ∧ tt σ2 H2 fun b H3 =>
        if b = true then te σ2 H3 fun y H4 => ∃ acc, H4 D = some (.lst acc) ∧ acc.length < sizeLine ∧ Nx (upd H4 D (.lst (acc ++ [y]))) else Nx H3) := by
  refine ⟨fun i m H => m = ds.length - i ∧ i ≤ ds.length ∧ ∃ G acc, Pv i G H acc, ⟨_, rfl, Nat.zero_le _, G0, _, h0⟩, ?_⟩
  rintro i m H ⟨rfl, hi, G, acc, p⟩
  obtain ⟨v1, v2⟩ := vw i G H acc p
  by_cases hlt : i < ds.length
  · refine .inr ⟨w.goes i H hlt (v1.trans v2), fun H => ∃ G acc, Pv (i + 1) G H acc, fun H' q => ⟨ds.length - (i + 1), by omega, rfl, hlt, q⟩, fun x H' y => ?_⟩
    have hd : ds[i]? = some ds[i] := List.getElem?_eq_getElem hlt
    obtain ⟨G', n, r⟩ := w.yields i H x H' ds[i] G hd v1 v2 y
    exact step i _ G H acc hd p x G' H' n r
  · have e : i = ds.length := by omega
    subst e
    exact .inl ⟨w.stops H (v1.trans v2), fin G H acc p⟩
/-! ### _law_of -/
def spOf (K : PySem.W.Frag) : Sp := fun vs H Q _ => ∃ u v a b c G ds, vs = [.ref u, v] ∧ Same G H ∧ G u = none ∧ H u = some (.lst [.int a, .int b, .int c]) ∧ Rp K G v (.list ds) ∧ 0 < ds.length ∧ ds.length ≤ 1000 ∧ 0 ≤ c ∧ c < 1000000000000 ∧
  ∀ d v' a' c' G' H', d ∈ ds → 0 ≤ c' → c' ≤ c + 1 → NxtM [u] G H G' H' → H' u = some (.lst [.int a', .int b, .int c']) → Rp K G' v' d → Q v' H'
abbrev s_law_of : Stmt := topS 48
theorem sc_law_of : FnScope ["_law_urn", "_law_some_so"] ["_law_urn", "_law_some_so"] (defScope s_law_of) := ⟨rfl, rfl, rfl, by decide +kernel, rfl, by decide +kernel, by decide +kernel⟩
section
variable {P : Program} {w : World} {K : PySem.W.Frag} {mg : Str → Option Value} {base : Heap}
theorem ok_law_of (T : Bl mg) (F : DefAt K mg "_law_of" s_law_of) (D_take : DefOk P w K mg base CX0 1 "_law_take" ["_law_urn", "_law_low_so"] (spTake K)) : DefOk P w K mg base CX0 2 "_law_of" ["_law_urn", "_law_some_so"] (spOf K) := by
  refine F.okH (N := ["_law_urn", "_law_some_so"]) (ps := ["_law_urn", "_law_some_so"]) sc_law_of (fun _ _ _ _ _ _ us hl => match us, hl with | [_, _], _ => rfl) (fun _ _ _ _ _ _ us hl => match us, hl with | [_, _], _ => rfl) (fun vs H Q E ⟨u, v, a, b, c, G, ds, h, _⟩ => by rw [h] <;> rfl) fun f cdv A outer s H vs Q E hr h => ?_
  refine ⟨_, pss_one (ps_ret (pe_ix ix_D (pd 1) (pe_defP D_take (hr.mono (by decide)) rfl pass0 (pa_cons (pv 0) (pa_cons (pd_callB call_lenDD rfl T.len boot_len (pda_cons (pd 1) pda_nil)) pa_nil))) (by exact fun _ _ => rfl))), ?_⟩
  obtain ⟨u, v, a, b, c, G, ds, rfl, vw, gu, hu, rv, h0, h1, hc, hc2, q⟩ := h
  have s0 : Sl K G (L2.start ["_law_urn", "_law_some_so"] [.ref u, v]) [none, some (.list ds)] := (Sl.none_ (n := 2) rfl).add (i := 1) rfl rv
  refine ⟨G, _, .list ds, vw, s0, rfl, fun v1 G1 H1 n1 r1 => ⟨.ref u, rfl, G1, _, .int (ds.length : Nat), n1.v, s0.mono n1.g, rfl, fun v2 G2 H2 n2 r2 => ?_⟩⟩
  cases r2
  have n12 := n1.trans n2
  have hu2 := n12.h _ _ hu
  have gu2 : G2 u = none := n12.mask gu hu
  refine ⟨u, (ds.length : Nat), a, b, c, G2, rfl, n2.v, gu2, hu2, by omega, by omega, hc, hc2, fun r a' c' H3 hr0 hr1 hc0 hc1 n3 hu3 => ?_⟩
  have hrn : r.toNat < ds.length := by omega
  have hr3 : ((r.toNat : Nat) : Int) = r := by omega
  refine ⟨G2, .list ds, .int r, ds[r.toNat], n3.v.trans (Same.refl _) |> fun z => (n3.g.trans n3.v), r1.mono n2.g, .int r, ?_, fun v4 G4 H4 n4 r4 => ?_⟩
  · show (ixN ds.length r).bind (fun j => ds[j]?) = _
    unfold ixN
    rw [if_pos hr0, if_pos hr1]
    exact List.getElem?_eq_getElem hrn
  · have nall : NxtM [u] G H G2 H3 := (n12.masked (M := [u]) (fun b hb => by rw [List.mem_singleton.mp hb]; exact gu) (one_mem hu)).trans n3
    refine q _ v4 a' c' G4 H4 (List.getElem_mem hrn) hc0 hc1 (nall.step n4 (one_mem hu3)) (n4.h _ _ hu3) r4
end
/-! ### _law_row -/
theorem eqv_str (x y : Str) : PyData.eqv (.str x) (.str y) = decide (x = y) := by
  unfold PyData.eqv
  by_cases h : x = y
  · subst h
    simp
  · simp [h]
theorem neD_str {x y : Str} (hx : PyData.strOk x = true) (hy : PyData.strOk y = true) : neD (.str x) (.str y) = some (.bool (!decide (x = y))) := by
  unfold neD
  rw [if_pos (by simp [SeqAt.shaped, PyData.canLay0, PyData.depth, hx, hy]), eqv_str]
theorem asg_of {i : Nat} {t : DE} {ρ : DEnv} {d : PyData} (h : t ρ = some d) : dAsg i t ρ = some (.nx (ρ.set i (some d))) := by
  unfold dAsg
  rw [h]
theorem dLc_of {ti : DA} {tg : PyData → DEnv → Option DEnv} {tt : DT} {te : DE} {vs : List Nat} {ρ : DEnv} {ds ys : List PyData} (h : ti ρ = some ds) (hz : ds.length ≤ 1000000) (e : lcGo tg tt te (wipeE ρ vs) ds = some ys) : dLc ti tg tt te vs ρ = some (.list ys) := by
  unfold dLc
  rw [h]
  dsimp only
  rw [if_pos hz, e]
theorem lay_strs : ∀ {xs : List Str}, (∀ x ∈ xs, PyData.strOk x = true) → PyData.canLayAll0 (xs.map PyData.str) = true
  | [], _ => by simp [PyData.canLayAll0]
  | x :: r, h => by
    rw [List.map_cons, PyData.canLayAll0, lay_strs fun y hy => h y (List.mem_cons_of_mem _ hy)]
    simp [PyData.canLay0, h x List.mem_cons_self]
theorem depth_strs : ∀ xs : List Str, PyData.depthAll (xs.map PyData.str) = 0
  | [] => by simp [PyData.depthAll]
  | x :: r => by
    rw [List.map_cons, PyData.depthAll, depth_strs r]
    simp [PyData.depth]
theorem shaped_list {xs : List Str} (h : ∀ x ∈ xs, PyData.strOk x = true) : SeqAt.shaped (.list (xs.map PyData.str)) = true := by
  simp [SeqAt.shaped, PyData.canLay0, PyData.depth, lay_strs h, depth_strs]
theorem shaped_tuple {xs : List Str} (h : ∀ x ∈ xs, PyData.strOk x = true) : SeqAt.shaped (.tuple (xs.map PyData.str)) = true := by
  simp [SeqAt.shaped, PyData.canLay0, PyData.depth, lay_strs h, depth_strs]
theorem neD_nil {xs : List Str} (h : ∀ x ∈ xs, PyData.strOk x = true) : neD (.list (xs.map PyData.str)) (.list []) = some (.bool (!xs.isEmpty)) := by
  unfold neD
  rw [if_pos (by rw [shaped_list h]; decide)]
  cases xs with
  | nil => simp [PyData.eqv, PyData.eqvAll]
  | cons x r => simp [PyData.eqv, PyData.eqvAll]
theorem lc_other {own : Str} {ρ : DEnv} (h4 : ρ[4]? = some (some (.str own))) (hl : ρ.length = 6) (ho : PyData.strOk own = true) : ∀ xs : List Str, (∀ x ∈ xs, PyData.strOk x = true) → lcGo (tgN 5) (dB (d2 neD (dVar 5) (dVar 4))) (dVar 5) ρ (xs.map PyData.str) = some ((xs.filter fun x => decide (x ≠ own)).map PyData.str)
  | [], _ => rfl
  | x :: r, hx => by
    have e5 : dVar 5 (ρ.set 5 (some (.str x))) = some (.str x) := by
      unfold dVar
      rw [List.getElem?_set_self (by omega)]
    have e4 : dVar 4 (ρ.set 5 (some (.str x))) = some (.str own) := by
      unfold dVar
      rw [List.getElem?_set_ne (by decide), h4]
    have et : dB (d2 neD (dVar 5) (dVar 4)) (ρ.set 5 (some (.str x))) = some (decide (x ≠ own)) := by
      unfold dB d2
      rw [e5, e4]
      dsimp only
      rw [neD_str (hx x List.mem_cons_self) ho]
      show some (!decide (x = own)) = _
      by_cases h : x = own <;> simp [h]
    have ih := lc_other h4 hl ho r fun y hy => hx y (List.mem_cons_of_mem _ hy)
    rw [List.map_cons]
    unfold lcGo
    show (match dB (d2 neD (dVar 5) (dVar 4)) (ρ.set 5 (some (.str x))) with | some true => _ | some false => _ | none => _) = _
    rw [et, List.filter_cons]
    by_cases h : x = own
    · rw [show decide (x ≠ own) = false from decide_eq_false (fun z => z h), if_neg Bool.false_ne_true]
      exact ih
    · rw [show decide (x ≠ own) = true from decide_eq_true h, if_pos rfl]
      dsimp only
      rw [e5]
      dsimp only
      rw [ih]
      rfl
def spRow (K : PySem.W.Frag) : Sp := fun vs H Q _ => ∃ (u : Addr) (v : V) (a b c : Int) (G : Hp) (ts : List Str), vs = [.ref u, v] ∧ Same G H ∧ G u = none ∧ H u = some (.lst [.int a, .int b, .int c]) ∧ Rp K G v (.tuple (ts.map PyData.str)) ∧ ts.Nodup ∧ (∀ x ∈ ts, PyData.strOk x = true) ∧ ts.length ≤ 100 ∧ 0 ≤ c ∧ c < 900000000000 ∧
  ∀ (r : List Str) (v' : V) (a' c' : Int) (G' H' : Hp), r.Nodup → (∀ x ∈ r, x ∈ ts) → 0 ≤ c' → c' ≤ c + 1000 → NxtM [u] G H G' H' → H' u = some (.lst [.int a', .int b, .int c']) → Rp K G' v' (.tuple (r.map PyData.str)) → Q v' H'
abbrev s_law_row : Stmt := topS 54
theorem sc_law_row : FnScope ["_law_urn", "_law_tags_so", "_law_left", "_law_found", "_law_own", "_law_far"] ["_law_urn", "_law_tags_so"] (defScope s_law_row) := ⟨rfl, rfl, rfl, by decide +kernel, rfl, by decide +kernel, by decide +kernel⟩
structure RowInv (K : PySem.W.Frag) (u p : Addr) (G0 H0 : Hp) (b cc : Int) (ts : List Str) (G : Hp) (σ : L2.St) (H : Hp) (left found : List Str) (a c : Int) : Prop where
  sl : Sl K G σ [none, none, some (.list (left.map PyData.str)), none, none, none]
  s0 : σ[0]? = some (some (.ref u))
  s3 : σ[3]? = some (some (.ref p))
  n : NxtM [u] G0 H0 G H
  hu : H u = some (.lst [.int a, .int b, .int c])
  gp : G p = none
  hp : H p = some (.lst (found.map V.str))
  nd : (left ++ found).Nodup
  sub : ∀ x ∈ left ++ found, x ∈ ts
  le : left.length + found.length ≤ ts.length
  c0 : 0 ≤ c
  c1 : c ≤ cc + (ts.length : Nat) + (found.length : Nat)
section
variable {P : Program} {w : World} {K : PySem.W.Frag} {mg : Str → Option Value} {base : Heap}
theorem ok_law_row (T : Bl mg) (F : DefAt K mg "_law_row" s_law_row) (D_take : DefOk P w K mg base CX0 1 "_law_take" ["_law_urn", "_law_low_so"] (spTake K)) : DefOk P w K mg base CX0 2 "_law_row" ["_law_urn", "_law_tags_so"] (spRow K) := by
  refine F.okH (N := ["_law_urn", "_law_tags_so", "_law_left", "_law_found", "_law_own", "_law_far"]) (ps := ["_law_urn", "_law_tags_so"]) sc_law_row (fun _ _ _ _ _ _ us hl => match us, hl with | [_, _], _ => rfl) (fun _ _ _ _ _ _ us hl => match us, hl with | [_, _], _ => rfl) (fun vs H Q E ⟨u, v, a, b, c, G, ds, h, _⟩ => by rw [h] <;> rfl) fun f cdv A outer s H vs Q E hr h => ?_
  refine ⟨_, pss_cons (ps_par (i := 2) (j := 3) rfl sc_law_row.nd rfl rfl (by decide) rfl rfl
      (pa_cons (pe_lc (g := liG K (Rp K) [4] (tgN 4)) (tt := tTest (tOp (rI0 fun i j => .bl (decide (j < i))) (fun σ H Q => tCons (tVar 0) (tCons (tC (.int 3)) tNil) σ H fun vs H1 => spTake K vs H1 Q E0) (tC (.int 0)))) (te := liE K (dVar 4)) rfl sc_law_row.nd (pdi_seq (pd 1)) (blkOk_by (own := [("_law_own", 4)]) (N := ["_law_urn", "_law_tags_so", "_law_left", "_law_found", "_law_own", "_law_far"]) (sc := (defScope s_law_row)) (by decide +kernel))
        (fun _ _ _ _ _ => (pdg_name (i := 4) sc_law_row.nd rfl (by first | exact Or.inl rfl | exact Or.inr rfl)))
        (fun _ _ _ _ _ => pts_one (pt_cmpR op_gt (pe_defP D_take (hr.mono (by decide)) rfl pass0 (pa_cons (pv 0) (pa_cons pe_int pa_nil))) pe_int (nomark _)))
        (fun _ _ _ _ _ => pd 4) (by intro _; rfl)) (pa_cons (pe_lst pa_nil) pa_nil)) (by rfl))
    (pss_cons (ps_while PassesOwn.never (pdt_cmp (op_neDD hr.units) (pd 2) (pd_lst pda_nil))
      (pss_cons (ps_set (i := 4) sc_law_row.nd rfl (by first | exact Or.inl rfl | exact Or.inr rfl) (pe_ix ix_D (pd 2) (pe_defP D_take (hr.mono (by decide)) rfl pass0 (pa_cons (pv 0) (pa_cons (pd_callB call_lenDD rfl T.len boot_len (pda_cons (pd 2) pda_nil)) pa_nil))) (by exact fun _ _ => rfl)))
      (pss_cons (pds_setLc (F := [0, 3, 4]) (i := 2) (own := [("_law_far", 5)]) rfl sc_law_row.nd rfl rfl (sw_true rfl rfl rfl (by decide +kernel)) (pdi_seq (pd 2)) (blkOk_by (own := [("_law_far", 5)]) (N := ["_law_urn", "_law_tags_so", "_law_left", "_law_found", "_law_own", "_law_far"]) (sc := (defScope s_law_row)) (by decide +kernel)) (by decide) (fun _ _ _ _ _ => (pdg_name (i := 5) sc_law_row.nd rfl (by first | exact Or.inl rfl | exact Or.inr rfl))) (fun _ _ _ _ _ => (pdts_one (pdt_cmp (op_neDD hr.units) (pd 5) (pd 4)))) (fun _ _ _ _ _ => (pd 5)))
      (pss_one (ps_append (i := 3) rfl (pd 4))))))
    (pss_one (pds_ret (F := []) (pd_callTy call_tupD rfl T.tuple boot_tuple (pda_cons (pd 3) pda_nil))))), ?_⟩
  obtain ⟨u, v, a, b, c, G, ts, rfl, vw, gu, hu, rv, tnd, tok, tle, hc, hc2, q⟩ := h
  have s0 : Sl K G (L2.start ["_law_urn", "_law_tags_so", "_law_left", "_law_found", "_law_own", "_law_far"] [.ref u, v]) [none, some (.tuple (ts.map PyData.str)), none, none, none, none] := (Sl.none_ (n := 6) rfl).add (i := 1) rfl rv
  refine ⟨G, _, ts.map PyData.str, vw, s0, rfl, fun J G1 H1 n1 wk D hD => ?_⟩
  have hu1 := n1.h _ _ hu
  have hDu : D ≠ u := fun z => by rw [z, hu1] at hD; cases hD
  have gD : G1 D = none := n1.v.free hD
  have hD0 : H D = none := n1.h.free hD
  have nm1 : NxtM [u] G H G1 H1 := n1.masked (M := [u]) (fun b hb => by rw [List.mem_singleton.mp hb]; exact gu) (one_mem hu)
  refine lc_hand (fun i G2 H2 acc => ∃ (ys : List Str) (a2 c2 : Int), acc = ys.map V.str ∧ NxtM [u] G H G2 H2 ∧ G2 D = none ∧ H2 D = some (.lst (ys.map V.str)) ∧ H2 u = some (.lst [.int a2, .int b, .int c2]) ∧ ys.Sublist (ts.take i) ∧ 0 ≤ c2 ∧ c2 ≤ c + (i : Nat) ∧ Same G1 G2) wk ?_ ?_ ?_ ?_
  · exact ⟨[], a, c, rfl, nm1.lay hD, gD, upd_same, by rw [upd_ne (Ne.symm hDu)]; exact hu1, List.nil_sublist _, hc, by omega, Same.refl _⟩
  · rintro i G2 H2 acc ⟨ys, a2, c2, _, n2, _, _, _, _, _, _, s⟩
    exact ⟨s, n2.v⟩
  · rintro i d G2 H2 acc hd ⟨ys, a2, c2, _, n2, g2, h2, u2, sub, k0, k1, sg⟩ x G3 H3 n3 r3
    have hit : i < ts.length := by
      have := (List.getElem?_eq_some_iff.mp hd).1
      rwa [List.length_map] at this
    have hdi : d = .str ts[i] := by
      rw [List.getElem?_map, List.getElem?_eq_getElem hit] at hd
      exact (Option.some.inj hd).symm
    subst hdi
    cases r3
    have hu3 := n3.h _ _ u2
    have gu3 : G3 u = none := n3.mask (n2.m u (List.mem_singleton.mpr rfl)) u2
    have hD3 := n3.h _ _ h2
    have gD3 : G3 D = none := n3.mask g2 h2
    refine ⟨G3, _, .str ts[i], _, n3.v, Sl.none_ (n := 6) (by rw [wipe_length] <;> rfl), .str _, rfl, fun σ2 s2 a2' => ⟨wipe_agr a2' (by decide), ?_⟩⟩
    have z0 : σ2[0]? = some (some (.ref u)) := by
      rw [a2'.2 0 (by decide)]
      exact (wipe_out (by decide)).trans rfl
    refine ⟨.ref u, z0, u, 3, a2, b, c2, G3, rfl, n3.v, gu3, hu3, by decide, by decide, k0, by omega, fun r a' c' H4 hr0 hr1 hc0 hc1 n4 hu4 => ⟨r, 0, rfl, rfl, decide (0 < r), rfl, ?_⟩⟩
    have hD4 : H4 D = some (.lst (ys.map V.str)) := n4.h _ _ (fun z => hDu (List.mem_singleton.mp z)) hD3
    have nn4 := (n2.step n3 (one_mem u2)).trans n4
    have htake : ts.take (i + 1) = ts.take i ++ [ts[i]] := by rw [List.take_add_one, List.getElem?_eq_getElem hit] <;> rfl
    by_cases hpos : 0 < r
    · rw [show decide (0 < r) = true from decide_eq_true hpos]
      refine iteT ?_
      refine liE_open (G := G3) (d := .str ts[i]) (n4.v) s2 ?_ rfl fun v5 H5 h5 rv5 => ?_
      · show dVar 4 ((List.replicate 6 none).set 4 (some (.str ts[i]))) = _
        rfl
      have rv' := rv5 G3
      cases rv'
      have hD5 := h5 _ _ hD4
      have hu5 := h5 _ _ hu4
      refine ⟨_, hD5, ?_, G3, (ys ++ [ts[i]]).map V.str, ys ++ [ts[i]], a', c', rfl, (nn4.grow h5).write (.inr hD0) gD3, gD3, ?_, ?_, ?_, hc0, ?_, sg.trans n3.g⟩
      · have q1 := sub.length_le
        rw [List.length_take] at q1
        rw [List.length_map]
        exact small1000 (by omega)
      · rw [upd_same, List.map_append] <;> rfl
      · rw [upd_ne (Ne.symm hDu)]
        exact hu5
      · rw [htake]
        exact sub.append (List.Sublist.refl _)
      · push_cast
        omega
    · rw [show decide (0 < r) = false from decide_eq_false hpos]
      refine iteF ⟨G3, ys.map V.str, ys, a', c', rfl, nn4, gD3, hD4, hu4, ?_, hc0, ?_, sg.trans n3.g⟩
      · rw [htake]
        exact sub.trans (List.sublist_append_left _ _)
      · push_cast
        omega
  · rintro G2 H2 acc ⟨ys, a2, c2, _, n2, g2, h2, u2, sub, k0, k1, sg⟩
    rw [List.length_map] at sub k1
    rw [List.take_length] at sub
    refine ⟨Nat.zero_le _, fun p hp => ⟨.ref D, .ref p, rfl, ?_⟩⟩
    have hpD : p ≠ D := fun z => by rw [z, h2] at hp; cases hp
    have hpu : p ≠ u := fun z => by rw [z, u2] at hp; cases hp
    have hp0 : H p = none := by
      cases z : H p with
      | none => rfl
      | some o =>
        have := n2.h p o (fun y => hpu (List.mem_singleton.mp y)) z
        rw [hp] at this
        cases this
    have n3 := (n2.publish (p := D) hD0 (fun z => hDu (List.mem_singleton.mp z)) g2 h2).lay (o := .lst []) hp
    have gp3 : (upd G2 D (.lst (ys.map V.str))) p = none := by rw [upd_ne hpD]; exact n2.v.free hp
    have rD : Rp K (upd G2 D (.lst (ys.map V.str))) (.ref D) (.list (ys.map PyData.str)) := .lst upd_same (RpAll.strs ys)
    refine ⟨fun m σ H4 => ∃ G4 left found a4 c4, m = left.length ∧ RowInv K u p G H b c ts G4 σ H4 left found a4 c4, ⟨_, _, ys, [], a2, c2, rfl, ⟨?_, rfl, rfl, n3, ?_, gp3, upd_same, ?_, ?_, ?_, k0, ?_⟩⟩, ?_⟩
    · exact (Sl.none_ (n := 6) rfl).add (i := 2) rfl rD
    · rw [upd_ne (Ne.symm hpu)]
      exact u2
    · rw [List.append_nil]
      exact sub.nodup tnd
    · rw [List.append_nil]
      exact fun x hx => sub.subset hx
    · rw [List.length_nil, Nat.add_zero]
      exact sub.length_le
    · rw [List.length_nil]
      omega
    · rintro m σ H4 ⟨G4, left, found, a4, c4, rfl, I⟩
      have lle := I.le
      have htest : dB (d2 neD (dVar 2) (dLst [])) [none, none, some (.list (left.map PyData.str)), none, none, none] = some (!left.isEmpty) := by
        show dB (fun _ => neD (.list (left.map PyData.str)) (.list [])) [] = _
        rw [neD_nil fun x hx => tok x (I.sub x (List.mem_append_left _ hx))]
        rfl
      refine liT_open I.n.v I.sl htest fun H5 h5 => ?_
      have n5 := I.n.grow h5
      have hu5 := h5 _ _ I.hu
      have hp5 := h5 _ _ I.hp
      cases left with
      | nil =>
        refine iteF ?_
        have n6 := n5.publish (p := p) (o := .lst (found.map V.str)) hp0 (fun z => hpu (List.mem_singleton.mp z)) I.gp hp5
        have s6 : Sl K (upd G4 p (.lst (found.map V.str))) σ [none, none, none, some (.list (found.map PyData.str)), none, none] := (Sl.none_ (n := 6) I.sl.len).add (i := 3) I.s3 (.lst upd_same (RpAll.strs found))
        refine ⟨_, _, .rt (.tuple (found.map PyData.str)), n6.v, s6, rfl, fun v7 G7 H7 n7 r7 => ?_⟩
        have nd := I.nd
        have sb := I.sub
        rw [List.nil_append] at nd sb
        have q1 := I.le
        have q2 := I.c1
        rw [List.length_nil, Nat.zero_add] at q1
        exact q found v7 a4 c4 G7 H7 nd sb I.c0 (by omega) (n6.step n7 (one_mem hu5)) (n7.h _ _ hu5) r7
      | cons l0 lr =>
        refine iteT ⟨fun σ' H' => ∃ G4 left found a4 c4, left.length ≤ lr.length ∧ RowInv K u p G H b c ts G4 σ' H' left found a4 c4, fun σ' H' ⟨G5, left, found, a5, c5, q1, q2⟩ => ⟨left.length, by rw [List.length_cons]; omega, G5, left, found, a5, c5, rfl, q2⟩, ?_⟩
        refine ⟨G4, _, .list ((l0 :: lr).map PyData.str), n5.v, I.sl, rfl, fun v6 G6 H6 n6 r6 => ⟨.ref u, I.s0, G6, _, .int (((l0 :: lr).map PyData.str).length : Nat), n6.v, I.sl.mono n6.g, rfl, fun v7 G7 H7 n7 r7 => ?_⟩⟩
        cases r7
        have hu7 := n7.h _ _ (n6.h _ _ hu5)
        have hp7 := n7.h _ _ (n6.h _ _ hp5)
        have gu7 : G7 u = none := n7.mask (n6.mask (I.n.m u (List.mem_singleton.mpr rfl)) hu5) (n6.h _ _ hu5)
        have gp7 : G7 p = none := n7.mask (n6.mask I.gp hp5) (n6.h _ _ hp5)
        rw [List.length_map]
        have cb := I.c1
        have c00 := I.c0
        refine ⟨u, ((l0 :: lr).length : Nat), a4, b, c4, G7, rfl, n7.v, gu7, hu7, by rw [List.length_cons]; omega, by omega, c00, by omega, fun r a' c' H8 hr0 hr1 hc0 hc1 n8 hu8 => ?_⟩
        have hp8 : H8 p = some (.lst (found.map V.str)) := n8.h _ _ (fun z => hpu (List.mem_singleton.mp z)) hp7
        have hrn : r.toNat < (l0 :: lr).length := by omega
        have hown : (((l0 :: lr).map PyData.str))[r.toNat]? = some (.str (l0 :: lr)[r.toNat]) := by rw [List.getElem?_map, List.getElem?_eq_getElem hrn] <;> rfl
        have hmem : (l0 :: lr)[r.toNat] ∈ l0 :: lr := List.getElem_mem hrn
        generalize (l0 :: lr)[r.toNat] = own at hown hmem
        refine ⟨G7, .list ((l0 :: lr).map PyData.str), .int r, .str own, n8.v, r6.mono n7.g, .int r, ?_, fun v9 G9 H9 n9 r9 => ?_⟩
        · show (ixN ((l0 :: lr).map PyData.str).length r).bind (fun j => ((l0 :: lr).map PyData.str)[j]?) = _
          unfold ixN
          rw [List.length_map, if_pos hr0, if_pos hr1]
          exact hown
        cases r9
        have nn8 : NxtM [u] G H G7 H8 := ((n5.step n6 (one_mem hu5)).step n7 (one_mem (n6.h _ _ hu5))).trans n8
        have nn9 := nn8.step n9 (one_mem hu8)
        have hu9 := n9.h _ _ hu8
        have hp9 := n9.h _ _ hp8
        have gp9 : G9 p = none := n9.mask gp7 hp8
        have s9 : Sl K G9 (σ.set 4 (some (.str own))) [none, none, some (.list ((l0 :: lr).map PyData.str)), none, some (.str own), none] := (I.sl.mono (n6.g.trans (n7.g.trans n9.g))).set (i := 4) (.str own)
        generalize hleft : (l0 :: lr).filter (fun x => decide (x ≠ own)) = left2
        refine ⟨G9, _, .nx [none, none, some (.list (left2.map PyData.str)), none, some (.str own), none], nn9.v, s9, ?_, fun σ10 G10 H10 n10 s10 f10 => ?_⟩
        · have e1 := lc_other (own := own) (ρ := wipeE [none, none, some (.list ((l0 :: lr).map PyData.str)), none, some (.str own), none] [5]) rfl rfl (tok own (I.sub own (List.mem_append_left _ hmem))) (l0 :: lr) fun x hx => tok x (I.sub x (List.mem_append_left _ hx))
          rw [hleft] at e1
          exact asg_of (dLc_of (ds := (l0 :: lr).map PyData.str) rfl (by rw [List.length_map]; omega) e1)
        have z0 : σ10[0]? = some (some (.ref u)) := by rw [f10 0 (by decide)]; exact get_set I.s0 (by decide)
        have z3 : σ10[3]? = some (some (.ref p)) := by rw [f10 3 (by decide)]; exact get_set I.s3 (by decide)
        obtain ⟨v4, z4, r4⟩ := s10.at_ 4 (.str own) rfl
        cases r4
        have hu10 := n10.h _ _ hu9
        have hp10 := n10.h _ _ hp9
        have gp10 : G10 p = none := n10.mask gp9 hp9
        have nn10 := nn9.step n10 (one_mem hu9)
        refine ⟨p, z3, ⟨_, hp10⟩, G10, _, .str own, nn10.v, s10, rfl, fun v11 G11 H11 n11 r11 => ?_⟩
        cases r11
        have hu11 := n11.h _ _ hu10
        have hp11 := n11.h _ _ hp10
        have gp11 : G11 p = none := n11.mask gp10 hp10
        have nn11 := nn10.step n11 (one_mem hu10)
        refine app_in hp11 (by rw [List.length_map]; exact small1000 (by omega)) ?_
        have nd := I.nd
        have ndl : (l0 :: lr).Nodup := (List.nodup_append.mp nd).1
        have l2len : left2.length ≤ lr.length := by
          rw [← hleft]
          have : ((l0 :: lr).filter fun x => decide (x ≠ own)).length < (l0 :: lr).length := by
            refine List.length_filter_lt_length_iff_exists.mpr ⟨own, hmem, by simp⟩
          rw [List.length_cons] at this
          omega
        refine ⟨G11, left2, found ++ [own], a', c', l2len, ⟨(s10.mono n11.g).weak rfl fun i d h => ?_, z0, z3, nn11.write (.inr hp0) gp11, ?_, gp11, ?_, ?_, ?_, ?_, hc0, ?_⟩⟩
        · rcases i with _ | _ | _ | _ | _ | _ | i <;> first | exact h | (cases h; done) | (simp at h; done)
        · rw [upd_ne (Ne.symm hpu)]
          exact hu11
        · rw [upd_same, List.map_append] <;> rfl
        · obtain ⟨nd1, nd2, nd3⟩ := List.nodup_append.mp nd
          refine List.nodup_append.mpr ⟨by rw [← hleft]; exact ndl.filter _, List.nodup_append.mpr ⟨nd2, by simp, fun x hx y hy z => ?_⟩, fun x hx y hy z => ?_⟩
          · rw [List.mem_singleton] at hy
            subst hy
            exact nd3 y hmem x hx z.symm
          · rw [← hleft] at hx
            obtain ⟨hx1, hx2⟩ := List.mem_filter.mp hx
            rcases List.mem_append.mp hy with hy | hy
            · exact nd3 x hx1 y hy z
            · rw [List.mem_singleton] at hy
              subst hy
              exact absurd z (of_decide_eq_true hx2)
        · intro x hx
          rcases List.mem_append.mp hx with hx | hx
          · rw [← hleft] at hx
            exact I.sub x (List.mem_append_left _ (List.mem_filter.mp hx).1)
          · rcases List.mem_append.mp hx with hx | hx
            · exact I.sub x (List.mem_append_right _ hx)
            · rw [List.mem_singleton] at hx
              subst hx
              exact I.sub x (List.mem_append_left _ hmem)
        · rw [List.length_append, List.length_singleton]
          rw [List.length_cons] at lle
          omega
        · rw [List.length_append, List.length_singleton]
          push_cast
          omega
end
end Od
end
section
set_option maxHeartbeats 4000000
/-! OdBox: the urns, the cells of the script. -/
namespace Od
open PySem PySem.Spec PyProof.Rows L2
theorem mulZ_l (x y : Int) (h : -(2 ^ 64) < x ∧ x < 2 ^ 64) : mulZ (.int x) (.int y) = some (.int (x * y)) := if_pos (.inl h)
theorem mulZ_r (x y : Int) (h : -(2 ^ 64) < y ∧ y < 2 ^ 64) : mulZ (.int x) (.int y) = some (.int (x * y)) := if_pos (.inr h)
theorem modD_of (x y : Int) (h : 0 < y) : modD (.int x) (.int y) = some (.int (x % y)) := if_pos h
def boxEls : List DE := [(d2 mulZ (dN absD (dArgs [(dVar 2)])) (dN intD (dArgs [(d2 geD (dN absD (dArgs [(dVar 2)])) (d2 powD (dC (.int 10)) (dC (.int 18))))]))), (d2 addD (d2 addD (d2 modD (dN intD (dArgs [(dVar 2)])) (dC (.int 2305843009213693951))) (d2 mulZ (dC (.int 39373)) (dVar 1))) (dC (.int 10503083))), (dC (.int 0))]
theorem box_els (l : PyData) (k z : Int) : ∃ x y, dArgs boxEls [some l, some (.int k), some (.int z)] = some [.int x, .int y, .int 0] := by
  have ab : ∃ m, absD [.int z] = some (.int m) := ⟨_, rfl⟩
  obtain ⟨m, ab⟩ := ab
  have pw : powD (.int 10) (.int 18) = some (.int (10 ^ 18)) := by
    show (if (0 : Int) ≤ 18 ∧ (18 : Int) ≤ 1000000 ∧ (10 : Int).natAbs < 2 ^ 64 then some (PyData.int (10 ^ (18 : Int).toNat)) else none) = _
    rw [if_pos (by decide)] <;> rfl
  have hb : ∃ i : Int, (i = 0 ∨ i = 1) ∧ intD [.bool (decide ((10 : Int) ^ 18 ≤ m))] = some (.int i) := by
    cases decide ((10 : Int) ^ 18 ≤ m)
    · exact ⟨0, .inl rfl, rfl⟩
    · exact ⟨1, .inr rfl, rfl⟩
  obtain ⟨i, hi, hb⟩ := hb
  have m1 : mulZ (.int m) (.int i) = some (.int (m * i)) := mulZ_r m i (by rcases hi with rfl | rfl <;> decide)
  have m2 : mulZ (.int 39373) (.int k) = some (.int (39373 * k)) := mulZ_l 39373 k ⟨by decide, by decide⟩
  have md : modD (.int z) (.int 2305843009213693951) = some (.int (z % 2305843009213693951)) := modD_of z 2305843009213693951 (by decide)
  have ad : ∀ x y : Int, addD (.int x) (.int y) = some (.int (x + y)) := fun x y => rfl
  have it : ∀ x : Int, intD [.int x] = some (.int x) := fun x => rfl
  have ge : geD (.int m) (.int (10 ^ 18)) = some (.bool (decide ((10 : Int) ^ 18 ≤ m))) := rfl
  refine ⟨m * i, z % 2305843009213693951 + 39373 * k + 10503083, ?_⟩
  simp only [boxEls, dArgs, d2, dN, dVar, dC, List.getElem?_cons_zero, List.getElem?_cons_succ, ab, pw, ge, hb, m1, m2, md, ad, it]
def spBox (K : PySem.W.Frag) : Sp := fun vs H Q _ => ∃ (v : V) (k : Nat) (G : Hp) (ns : List Int), vs = [v, .int (k : Int)] ∧ Same G H ∧ Rp K G v (.list (ns.map PyData.int)) ∧ k < ns.length ∧ ns.length ≤ 1000 ∧
  ∀ p x y H1, Same H H1 → H1 p = none → Q (.ref p) (upd H1 p (.lst [.int x, .int y, .int 0]))
abbrev s_law_box : Stmt := topS 45
theorem sc_law_box : FnScope ["_law_script", "_law_k", "_law_bit_so"] ["_law_script", "_law_k"] (defScope s_law_box) := ⟨rfl, rfl, rfl, by decide +kernel, rfl, by decide +kernel, by decide +kernel⟩
theorem ints_len {K : PySem.W.Frag} {G : Hp} {vs : List V} {ns : List Int} (h : RpAll K G vs (ns.map PyData.int)) : vs = ns.map V.int := RpAll.of_ints h
section
variable {P : Program} {w : World} {K : PySem.W.Frag} {mg : Str → Option Value} {base : Heap}
theorem ok_law_box (T : Bl mg) (F : DefAt K mg "_law_box" s_law_box) : DefOk P w K mg base CX0 1 "_law_box" ["_law_script", "_law_k"] (spBox K) := by
  refine F.okH (N := ["_law_script", "_law_k", "_law_bit_so"]) (ps := ["_law_script", "_law_k"]) sc_law_box (fun _ _ _ _ _ _ us hl => match us, hl with | [_, _], _ => rfl) (fun _ _ _ _ _ _ us hl => match us, hl with | [_, _], _ => rfl) (fun vs H Q E ⟨v, k, G, ns, h, _⟩ => by rw [h] <;> rfl) fun f cdv A outer s H vs Q E hr h => ?_
  refine ⟨_, pss_cons (pds_set (F := []) (i := 2) sc_law_box.nd rfl (by first | exact Or.inl rfl | exact Or.inr rfl) (pd_if (pdt_cmp op_ltD (pd 1) (pd_callB call_lenDD rfl T.len boot_len (pda_cons (pd 0) pda_nil))) (pd_ix ix_D (pd 0) (pd 1)) pd_int))
    (pss_one (ps_ret (pe_lst (pda_cons (pd_op op_mulZ (pd_callB call_absD rfl T.abs boot_abs (pda_cons (pd 2) pda_nil)) (pd_callTy call_intD rfl T.int boot_int (pda_cons (pd_cmp op_geD (pd_callB call_absD rfl T.abs boot_abs (pda_cons (pd 2) pda_nil)) (pd_op op_powD pd_int pd_int)) pda_nil))) (pda_cons (pd_op op_addD (pd_op op_addD (pd_op op_modD (pd_callTy call_intD rfl T.int boot_int (pda_cons (pd 2) pda_nil)) pd_int) (pd_op op_mulZ pd_int (pd 1))) pd_int) (pda_cons pd_int pda_nil)))))), ?_⟩
  obtain ⟨v, k, G, ns, rfl, vw, rv, hk, hns, q⟩ := h
  have s0 : Sl K G (L2.start ["_law_script", "_law_k", "_law_bit_so"] [v, .int (k : Int)]) [some (.list (ns.map PyData.int)), some (.int (k : Int)), none] := ((Sl.none_ (n := 3) rfl).add (i := 0) rfl rv).add (i := 1) rfl (.int _)
  have hix : atI (ns.map PyData.int) (k : Int) = some (.int ns[k]) := by
    unfold atI ixN
    rw [if_pos (by omega), if_pos (by rw [List.length_map]; omega)]
    show (ns.map PyData.int)[((k : Int)).toNat]? = _
    rw [Int.toNat_natCast, List.getElem?_map, List.getElem?_eq_getElem hk] <;> rfl
  generalize ns[k] = z at hix
  refine ⟨G, _, .nx [some (.list (ns.map PyData.int)), some (.int (k : Int)), some (.int z)], vw, s0, ?_, fun σ1 G1 H1 n1 s1 _ => ?_⟩
  · refine asg_of ?_
    have hlt : decide ((k : Int) < (((ns.map PyData.int).length : Nat) : Int)) = true := decide_eq_true (by rw [List.length_map]; omega)
    unfold dIf
    show (match some (decide ((k : Int) < (((ns.map PyData.int).length : Nat) : Int))) with | some true => _ | some false => _ | none => none) = _
    rw [hlt]
    exact hix
  · obtain ⟨x, y, e⟩ := box_els (.list (ns.map PyData.int)) (k : Int) z
    refine ⟨G1, _, [.int x, .int y, .int 0], n1.v, s1, e, fun vs2 G2 H2 n2 r2 => ⟨by rw [r2.length]; show 3 ≤ sizeLine; decide, fun p hp => ?_⟩⟩
    have ev : vs2 = [.int x, .int y, .int 0] := RpAll.of_ints (xs := [x, y, 0]) r2
    subst ev
    exact q p x y H2 (n1.h.trans n2.h) hp
end
end Od
end
section
set_option maxHeartbeats 4000000
/-! OdCells: the script folded into two cells. -/
namespace Od
open PySem PySem.Spec PyProof.Rows L2
def spCells (K : PySem.W.Frag) : Sp := fun vs H Q _ => ∃ (a : Addr) (ns : List Int), vs = [.ref a, .int 2] ∧ SqL K H a (ns.map V.int) ∧ ns.length ≤ 1000 ∧
  ∀ p (ms : List Int) H', Same H H' → H p = none → H' p = some (.lst (ms.map V.int)) → ms.length ≤ 2 → Q (.ref p) H'
abbrev s_law_cells : Stmt := topS 47
theorem sc_law_cells : FnScope ["_law_script", "_law_roof_so", "_law_bits_so", "_law_k", "_law_bit_so", "_law_at_so"] ["_law_script", "_law_roof_so"] (defScope s_law_cells) := ⟨rfl, rfl, rfl, by decide +kernel, rfl, by decide +kernel, by decide +kernel⟩
structure CellInv (K : PySem.W.Frag) (p : Addr) (H0 : Hp) (G : Hp) (σ : L2.St) (H : Hp) (ms : List Int) : Prop where
  len : σ.length = 6
  s1 : σ[1]? = some (some (.int 2))
  s2 : σ[2]? = some (some (.ref p))
  n : NxtM [] (fun _ => none) H0 G H
  gp : G p = none
  hp : H p = some (.lst (ms.map V.int))
theorem cells_val {ms : List Int} {at_ k z : Int} {m : Int} (hk : 0 ≤ k ∧ k ≤ 1000) (hm : atI (ms.map PyData.int) at_ = some (.int m)) :
    d2 addD (d2 ixD (dVar 2) (dVar 5)) (d2 mulZ (dVar 4) (d2 addD (dVar 3) (dC (.int 2)))) [none, none, some (.list (ms.map PyData.int)), some (.int k), some (.int z), some (.int at_)] = some (.int (m + z * (k + 2))) := by
  have e1 : ixD (.list (ms.map PyData.int)) (.int at_) = some (.int m) := hm
  have ad : ∀ x y : Int, addD (.int x) (.int y) = some (.int (x + y)) := fun x y => rfl
  simp only [d2, dVar, dC, List.getElem?_cons_zero, List.getElem?_cons_succ, e1, ad, mulZ_r z (k + 2) ⟨by omega, by omega⟩]
section
variable {P : Program} {w : World} {K : PySem.W.Frag} {mg : Str → Option Value} {base : Heap}
theorem ok_law_cells (T : Bl mg) (F : DefAt K mg "_law_cells" s_law_cells) : DefOk P w K mg base CX0 1 "_law_cells" ["_law_script", "_law_roof_so"] (spCells K) := by
  refine F.okH (N := ["_law_script", "_law_roof_so", "_law_bits_so", "_law_k", "_law_bit_so", "_law_at_so"]) (ps := ["_law_script", "_law_roof_so"]) sc_law_cells (fun _ _ _ _ _ _ us hl => match us, hl with | [_, _], _ => rfl) (fun _ _ _ _ _ _ us hl => match us, hl with | [_, _], _ => rfl) (fun vs H Q E ⟨a, ns, h, _⟩ => by rw [h] <;> rfl) fun f cdv A outer s H vs Q E hr h => ?_
  refine ⟨_, pss_cons (ps_set (i := 2) sc_law_cells.nd rfl (by first | exact Or.inl rfl | exact Or.inr rfl) (pe_orT (pe_callTy call_list_of rfl T.list boot_list (pa_cons (pe_slice sl_list (pv 0) po_none (po_some (pv 1))) pa_nil)) (pe_one (pe_lst (pa_cons pe_int pa_nil)))))
    (pss_cons (ps_for PassesOwn.never rfl (pi_enum rfl T.enumerate (pa_cons (pe_slice sl_list (pv 0) (po_some (pv 1)) (po_some pe_int)) pa_nil)) (pdg_tupW rfl (pdgs_cons (pdg_name (i := 3) sc_law_cells.nd rfl (by first | exact Or.inl rfl | exact Or.inr rfl)) (pdgs_cons (pdg_name (i := 4) sc_law_cells.nd rfl (by first | exact Or.inl rfl | exact Or.inr rfl)) pdgs_nil)))
      (pss_cons (pds_set (F := [1, 2]) (i := 5) sc_law_cells.nd rfl (by first | exact Or.inl rfl | exact Or.inr rfl) (pd_op op_modD (pd_callTy call_intD rfl T.int boot_int (pda_cons (pd 3) pda_nil)) (pd 1)))
      (pss_one (ps_asg (pd_op op_addD (pd_ix ix_D (pd 2) (pd 5)) (pd_op op_mulZ (pd 4) (pd_op op_addD (pd 3) pd_int))) (pg_sub (pv 2) (pv 5) set_list)))))
    (pss_one (ps_ret (pv 2)))), ?_⟩
  obtain ⟨a, ns, rfl, hq, hns, q⟩ := h
  have vw0 : Same (fun _ => none : Hp) H := fun b u e => by cases e
  -- what follows the first statement
  have cont : ∀ (p : Addr) (ms : List Int) (H1 : Hp), Same H H1 → H p = none → H1 p = some (.lst (ms.map V.int)) → ms.length ≤ 2 → (2 < ns.length → ms.length = 2) →
      tSeq (tFor (iEnum K (tCons (tSl (rSlL K) (tVar 0) (tPart (tVar 1)) (tPart (tC (.int 63)))) tNil)) (liG K (WRp K) [3, 4] (tgT [3, 4])) (tSeq (liS K [1, 2] (dAsg 5 (d2 modD (dN intD (dArgs [dVar 3])) (dVar 1)))) (tAsg (liE K (d2 addD (d2 ixD (dVar 2) (dVar 5)) (d2 mulZ (dVar 4) (d2 addD (dVar 3) (dC (.int 2)))))) (gSub (tVar 2) (tVar 5) rSetL))))
        (tRet (tVar 2)) { nx := fun _ H' => Q .non H', rt := Q } ((L2.start ["_law_script", "_law_roof_so", "_law_bits_so", "_law_k", "_law_bit_so", "_law_at_so"] [.ref a, .int 2]).set 2 (some (.ref p))) H1 := by
    intro p ms H1 h1 hp0 hp1 hm hm2
    have q1 : SqL K H1 a (ns.map V.int) := h1.seq hq
    refine ⟨.ref a, rfl, .int 2, rfl, 2, rfl, 63, rfl, a, _, rfl, q1, fun c hc => ?_⟩
    have hcp : c ≠ p := fun z => by rw [z, hp1] at hc; cases hc
    have ec : cutV (ns.map V.int) (some 2) (some 63) = (cutL ns (some 2) (some 63)).map V.int := by
      unfold cutV cutL
      rw [List.length_map, List.map_take, List.map_drop]
    generalize hcs : cutL ns (some 2) (some 63) = cs at ec
    have lcs : cs.length ≤ ns.length ∧ (ns.length ≤ 2 → cs = []) := by
      rw [← hcs]
      unfold cutL
      refine ⟨by rw [List.length_take, List.length_drop]; omega, fun h => ?_⟩
      have e1 : HT.sIx ns.length 0 (some 2) = min 2 ns.length := HT.sIx_nat ns.length 0 2
      rw [e1, show min 2 ns.length = ns.length by omega, List.drop_length, List.take_nil]
    rw [ec]
    refine ⟨c, cs.map V.int, rfl, SqL.of upd_same, ?_⟩
    have n2 : Nxt (fun _ => none) H1 (upd (fun _ => none) c (.lst (cs.map V.int))) (upd H1 c (.lst (cs.map V.int))) := Nxt.upd (vw0.trans h1) hc
    have rc : RpAll K (upd (fun _ => none) c (.lst (cs.map V.int))) (cs.map V.int) (cs.map PyData.int) := RpAll.ints cs
    have wk := walkD_enum (K := K) (G := upd (fun _ => none) c (.lst (cs.map V.int))) upd_same rc
    refine for_hand (fun i G3 σ H3 => ∃ ms : List Int, CellInv K p H G3 σ H3 ms ∧ ms.length ≤ 2 ∧ (2 < ns.length → ms.length = 2) ∧ Same (upd (fun _ => none) c (.lst (cs.map V.int))) G3) wk ?_ ?_ ?_ ?_
    · exact ⟨ms, ⟨rfl, rfl, rfl, ((NxtM.refl vw0 (M := []) fun b hb => by simp at hb).grow h1).step0 n2, by rw [upd_ne (Ne.symm hcp)], by rw [upd_ne (Ne.symm hcp)]; exact hp1⟩, hm, hm2, Same.refl _⟩
    · rintro i G3 σ H3 ⟨ms, I, _, _, s⟩
      exact ⟨s, I.n.v⟩
    · rintro i d G3 σ H3 hd ⟨ms, I, l2, l3, sg⟩ x G4 H4 n4 r4
      obtain ⟨e, he, rfl⟩ := enum_get hd
      have hi : i < cs.length := by
        have := (List.getElem?_eq_some_iff.mp he).1
        rwa [List.length_map] at this
      have hz : e = .int cs[i] := by
        rw [List.getElem?_map, List.getElem?_eq_getElem hi] at he
        exact (Option.some.inj he).symm
      subst hz
      generalize cs[i] = z at r4 he hd
      have hn : 2 < ns.length := by
        by_cases h : ns.length ≤ 2
        · rw [lcs.2 h] at hi
          exact absurd hi (Nat.not_lt_zero _)
        · omega
      have lm := l3 hn
      rw [Nat.zero_add] at r4
      have hp4 := n4.h _ _ I.hp
      have gp4 : G4 p = none := n4.mask I.gp I.hp
      refine ⟨G4, _, _, [none, none, none, some (.int (i : Nat)), some (.int z), none], n4.v, Sl.none_ (n := 6) I.len, r4, rfl, fun σ5 s5 a5 => ?_⟩
      have z1 : σ5[1]? = some (some (.int 2)) := by rw [a5.2 1 (by decide)]; exact I.s1
      have z2 : σ5[2]? = some (some (.ref p)) := by rw [a5.2 2 (by decide)]; exact I.s2
      have l5 : σ5.length = 6 := s5.len
      have hmod : (i : Int) % 2 = 0 ∨ (i : Int) % 2 = 1 := by omega
      refine ⟨G4, _, .nx [none, some (.int 2), none, some (.int (i : Nat)), some (.int z), some (.int ((i : Int) % 2))], n4.v, s5.add (i := 1) z1 (.int 2), ?_, fun σ6 G6 H6 n6 s6 f6 => ?_⟩
      · refine asg_of ?_
        exact modD_of (i : Nat) 2 (by decide)
      have y1 : σ6[1]? = some (some (.int 2)) := by rw [f6 1 (by decide)]; exact z1
      have y2 : σ6[2]? = some (some (.ref p)) := by rw [f6 2 (by decide)]; exact z2
      have l6 : σ6.length = 6 := s6.len
      obtain ⟨v3, y3, r3⟩ := s6.at_ 3 (.int (i : Nat)) rfl
      obtain ⟨v4, y4, r4'⟩ := s6.at_ 4 (.int z) rfl
      obtain ⟨v5, y5, r5⟩ := s6.at_ 5 (.int ((i : Int) % 2)) rfl
      cases r3
      cases r4'
      cases r5
      have hp6 := n6.h _ _ hp4
      have gp6 : G6 p = none := n6.mask gp4 hp4
      have nn6 := (I.n.step0 n4).step0 n6
      have hat : ∃ (j : Nat) (m : Int), ixN ms.length ((i : Int) % 2) = some j ∧ j < ms.length ∧ atI (ms.map PyData.int) ((i : Int) % 2) = some (.int m) := by
        have hj : ((i : Int) % 2).toNat < ms.length := by omega
        have e1 : ixN ms.length ((i : Int) % 2) = some ((i : Int) % 2).toNat := by
          unfold ixN
          rw [if_pos (by omega), if_pos (by omega)]
        refine ⟨_, ms[((i : Int) % 2).toNat], e1, hj, ?_⟩
        unfold atI
        rw [List.length_map, e1]
        show (ms.map PyData.int)[((i : Int) % 2).toNat]? = _
        rw [List.getElem?_map, List.getElem?_eq_getElem hj] <;> rfl
      obtain ⟨j, m, hj1, hj2, hm1⟩ := hat
      have so : Sl K (upd G6 p (.lst (ms.map V.int))) σ6 [none, none, some (.list (ms.map PyData.int)), some (.int (i : Nat)), some (.int z), some (.int ((i : Int) % 2))] :=
        ((((Sl.none_ (n := 6) l6).add (i := 2) y2 (.lst upd_same (RpAll.ints ms))).add (i := 3) y3 (.int _)).add (i := 4) y4 (.int _)).add (i := 5) y5 (.int _)
      refine liE_open (d := .int (m + z * ((i : Int) + 2))) (same_open nn6.v hp6) so (cells_val (by omega) hm1) rfl fun v7 H7 h7 rv7 => ?_
      have rv := rv7 G6
      cases rv
      have hp7 := h7 _ _ hp6
      refine ⟨.ref p, y2, .int ((i : Int) % 2), y5, p, _, _, j, rfl, rfl, hp7, by rw [List.length_map]; exact hj1, ?_⟩
      refine ⟨G6, ms.set j (m + z * ((i : Int) + 2)), ⟨l6, y1, y2, ?_, gp6, ?_⟩, by rw [List.length_set]; exact l2, fun h => by rw [List.length_set]; exact l3 h, sg.trans (n4.g.trans n6.g)⟩
      · exact (nn6.grow h7).write (.inr hp0) gp6
      · rw [upd_same, List.map_set]
    · rintro G3 σ H3 ⟨ms, I, l2, l3, sg⟩
      exact ⟨.ref p, I.s2, q p ms H3 (fun b u e => I.n.h b u (by simp) e) hp0 I.hp l2⟩
  have e0 : cutV (ns.map V.int) none (some 2) = (ns.take 2).map V.int := by
    unfold cutV
    have e1 : HT.sIx (ns.map V.int).length (ns.map V.int).length (some 2) = min 2 (ns.map V.int).length := HT.sIx_nat _ _ 2
    rw [e1, HT.sIx_none, List.drop_zero, Nat.sub_zero, ← List.map_take]
    congr 1
    rw [List.length_map]
    by_cases h : 2 ≤ ns.length
    · rw [Nat.min_eq_left h]
    · rw [Nat.min_eq_right (by omega), List.take_length, List.take_of_length_le (by omega)]
  refine ⟨.ref a, rfl, .int 2, rfl, 2, rfl, a, _, rfl, hq, fun c hc => ?_⟩
  rw [e0]
  refine ⟨c, _, rfl, .inl (SqL.of upd_same), fun p hp => ?_⟩
  have hcp : p ≠ c := fun z => by rw [z, upd_same] at hp; cases hp
  have hp0 : H p = none := by rwa [upd_ne hcp] at hp
  have h1 : Same H (upd (upd H c (.lst ((ns.take 2).map V.int))) p (.lst ((ns.take 2).map V.int))) := (same_upd hc).trans (same_upd hp)
  refine ⟨!((ns.take 2).map V.int).isEmpty, .inl ⟨_, SqL.of upd_same, rfl⟩, ?_⟩
  cases ns with
  | nil =>
    refine iteF ⟨by show 1 ≤ sizeLine; decide, fun b hb => ?_⟩
    have hb0 : H b = none := h1.free hb
    exact cont b [0] _ (h1.trans (same_upd hb)) hb0 upd_same (by decide) fun h => absurd h (by simp)
  | cons n0 nr =>
    refine iteT ?_
    exact cont p ((n0 :: nr).take 2) _ h1 hp0 upd_same (by rw [List.length_take]; omega) fun h => by rw [List.length_take]; omega
end
end Od
end
section
set_option maxHeartbeats 4000000
/-! OdOwn: statements of a def that keeps two lists of its own (the slots 3 and 4). -/
namespace Od
open PySem PySem.Spec PyProof.Rows L2
def OwL (K : PySem.W.Frag) (G H0 : Hp) (σ : L2.St) (H : Hp) (i : Nat) (p : Addr) : Option (List PyData) → Prop
  | none => True
  | some ds => ∃ xs, σ[i]? = some (some (.ref p)) ∧ H p = some (.lst xs) ∧ G p = none ∧ H0 p = none ∧ RpAll K G xs ds ∧ ds.length ≤ 1000
structure Ow (K : PySem.W.Frag) (G0 H0 G : Hp) (σ : L2.St) (H : Hp) (ρ : DEnv) (a b : Option (List PyData)) : Prop where
  n : NxtM [] G0 H0 G H
  s : Sl K G σ ρ
  pq : ∃ p q, (a.isSome = true → b.isSome = true → p ≠ q) ∧ OwL K G H0 σ H 3 p a ∧ OwL K G H0 σ H 4 q b
abbrev WSt := DEnv × Option (List PyData) × Option (List PyData)
def liW (K : PySem.W.Frag) (G0 H0 : Hp) (t : WSt → Option WSt) : TS := fun D σ H => ∃ G ρ a b ρ' a' b', Ow K G0 H0 G σ H ρ a b ∧ t (ρ, a, b) = some (ρ', a', b') ∧ ∀ σ' G' H', Ow K G0 H0 G' σ' H' ρ' a' b' → D.nx σ' H'
def liWR (K : PySem.W.Frag) (G0 H0 : Hp) (t : WSt → Option PyData) : TS := fun D σ H => ∃ G ρ a b d, Ow K G0 H0 G σ H ρ a b ∧ t (ρ, a, b) = some d ∧ ∀ v G' H', Nxt G0 H0 G' H' → Rp K G' v d → D.rt v H'
def wBind (t : WSt → Option WSt) (u : WSt → Option PyData) : WSt → Option PyData := fun w => match t w with
  | some w' => u w'
  | none => none
def wPure (t : DS) : WSt → Option WSt := fun w => match t w.1 with
  | some (.nx ρ') => some (ρ', w.2.1, w.2.2)
  | _ => none
def wNew3 (t : DA) : WSt → Option WSt := fun w => match t w.1 with
  | some ds => if ds.length ≤ 1000 ∧ 3 < w.1.length then some (w.1.set 3 none, some ds, w.2.2) else none
  | _ => none
def wNew4 (t : DA) : WSt → Option WSt := fun w => match t w.1 with
  | some ds => if ds.length ≤ 1000 ∧ 4 < w.1.length then some (w.1.set 4 none, w.2.1, some ds) else none
  | _ => none
def wCat3 (t : DE) : WSt → Option WSt := fun w => match w.2.1, t w.1 with
  | some xs, some (.list ds) => if xs.length + ds.length ≤ 1000 ∧ 3 < w.1.length then some (w.1.set 3 none, some (xs ++ ds), w.2.2) else none
  | _, _ => none
def wCat4 (t : DE) : WSt → Option WSt := fun w => match w.2.2, t w.1 with
  | some xs, some (.list ds) => if xs.length + ds.length ≤ 1000 ∧ 4 < w.1.length then some (w.1.set 4 none, w.2.1, some (xs ++ ds)) else none
  | _, _ => none
def wApp3 (t : DE) : WSt → Option WSt := fun w => match w.2.1, t w.1 with
  | some xs, some d => if xs.length + 1 ≤ 1000 then some (w.1, some (xs ++ [d]), w.2.2) else none
  | _, _ => none
def wApp4 (t : DE) : WSt → Option WSt := fun w => match w.2.2, t w.1 with
  | some xs, some d => if xs.length + 1 ≤ 1000 then some (w.1, w.2.1, some (xs ++ [d])) else none
  | _, _ => none
def wRet (t : DE) : WSt → Option PyData := fun w => match w.2.1, w.2.2 with
  | some xs, some ys => t ((w.1.set 3 (some (.list xs))).set 4 (some (.list ys)))
  | _, _ => none
section
variable {K : PySem.W.Frag} {G0 H0 G G1 H H1 : Hp} {σ σ1 : L2.St} {ρ : DEnv} {a b : Option (List PyData)} {i : Nat} {p : Addr}
theorem OwL.next {o : Option (List PyData)} (h : OwL K G H0 σ H i p o) (n : Nxt G H G1 H1) (e : σ1[i]? = σ[i]?) : OwL K G1 H0 σ1 H1 i p o := by
  cases o with
  | none => trivial
  | some ds =>
    obtain ⟨xs, h1, h2, h3, h4, h5, h6⟩ := h
    exact ⟨xs, by rw [e]; exact h1, n.h _ _ h2, n.mask h3 h2, h4, h5.mono n.g, h6⟩
theorem OwL.ne {o : Option (List PyData)} {r : Addr} {u : HO} (h : OwL K G H0 σ H i p o) (hr : H r = none) : o.isSome = true → p ≠ r := fun ho => by
  cases o with
  | none => cases ho
  | some ds =>
    obtain ⟨xs, h1, h2, _⟩ := h
    exact ne_of_none h2 hr
/-- something else is written -/
theorem OwL.write {o : Option (List PyData)} {r : Addr} {u : HO} (h : OwL K G H0 σ H i p o) (hr : o.isSome = true → p ≠ r) (e : σ1[i]? = σ[i]?) : OwL K G H0 σ1 (upd H r u) i p o := by
  cases o with
  | none => trivial
  | some ds =>
    obtain ⟨xs, h1, h2, h3, h4, h5, h6⟩ := h
    exact ⟨xs, by rw [e]; exact h1, by rw [upd_ne (hr rfl)]; exact h2, h3, h4, h5, h6⟩
end
section
variable {K : PySem.W.Frag} {G0 H0 G G1 H H1 : Hp} {σ σ1 : L2.St} {ρ : DEnv} {a b : Option (List PyData)}
theorem Ow.next (ow : Ow K G0 H0 G σ H ρ a b) (n : Nxt G H G1 H1) : Ow K G0 H0 G1 σ H1 ρ a b :=
  let ⟨p, q, hpq, o3, o4⟩ := ow.pq
  ⟨ow.n.step0 n, ow.s.mono n.g, p, q, hpq, o3.next n rfl, o4.next n rfl⟩
theorem NxtM.free0 (a : NxtM [] G0 H0 G H) {r : Addr} (hr : H r = none) : H0 r = none := by
  cases z : H0 r with
  | none => rfl
  | some u => rw [a.h r u (by simp) z] at hr; cases hr
theorem Ow.new3 {r : Addr} {vs : List V} {ds : List PyData} (ow : Ow K G0 H0 G σ H ρ a b) (hr : H r = none) (rl : RpAll K G vs ds) (hl : ds.length ≤ 1000) (h3 : 3 < ρ.length) : Ow K G0 H0 G (σ.set 3 (some (.ref r))) (upd H r (.lst vs)) (ρ.set 3 none) (some ds) b := by
  obtain ⟨p, q, hpq, o3, o4⟩ := ow.pq
  exact ⟨ow.n.lay hr, ow.s.forget, r, q, fun _ hb z => (o4.ne (u := .lst []) hr hb) z.symm, ⟨vs, List.getElem?_set_self (by rw [ow.s.len]; exact h3), upd_same, ow.n.v.free hr, ow.n.free0 hr, rl, hl⟩, o4.write (fun ho => o4.ne (u := .lst []) hr ho) (List.getElem?_set_ne (by decide))⟩
theorem Ow.new4 {r : Addr} {vs : List V} {ds : List PyData} (ow : Ow K G0 H0 G σ H ρ a b) (hr : H r = none) (rl : RpAll K G vs ds) (hl : ds.length ≤ 1000) (h4 : 4 < ρ.length) : Ow K G0 H0 G (σ.set 4 (some (.ref r))) (upd H r (.lst vs)) (ρ.set 4 none) a (some ds) := by
  obtain ⟨p, q, hpq, o3, o4⟩ := ow.pq
  exact ⟨ow.n.lay hr, ow.s.forget, p, r, fun hb _ z => (o3.ne (u := .lst []) hr hb) z, o3.write (fun ho => o3.ne (u := .lst []) hr ho) (List.getElem?_set_ne (by decide)), ⟨vs, List.getElem?_set_self (by rw [ow.s.len]; exact h4), upd_same, ow.n.v.free hr, ow.n.free0 hr, rl, hl⟩⟩
theorem Ow.app3 {xs : List PyData} (ow : Ow K G0 H0 G σ H ρ (some xs) b) {v : V} {d : PyData} (rv : Rp K G v d) (hl : xs.length + 1 ≤ 1000) : ∃ p vs, σ[3]? = some (some (.ref p)) ∧ H p = some (.lst vs) ∧ vs.length < sizeLine ∧ Ow K G0 H0 G σ (upd H p (.lst (vs ++ [v]))) ρ (some (xs ++ [d])) b := by
  obtain ⟨p, q, hpq, ⟨vs, h1, h2, h3, h4, h5, h6⟩, o4⟩ := ow.pq
  refine ⟨p, vs, h1, h2, by rw [h5.length, sizeLine_eq]; omega, ow.n.write (.inr h4) h3, ow.s, p, q, hpq, ⟨_, h1, upd_same, h3, h4, h5.append (.cons rv .nil), by rw [List.length_append]; exact hl⟩, o4.write (fun ho z => hpq rfl ho z.symm) rfl⟩
theorem Ow.app4 {xs : List PyData} (ow : Ow K G0 H0 G σ H ρ a (some xs)) {v : V} {d : PyData} (rv : Rp K G v d) (hl : xs.length + 1 ≤ 1000) : ∃ p vs, σ[4]? = some (some (.ref p)) ∧ H p = some (.lst vs) ∧ vs.length < sizeLine ∧ Ow K G0 H0 G σ (upd H p (.lst (vs ++ [v]))) ρ a (some (xs ++ [d])) := by
  obtain ⟨p, q, hpq, o3, ⟨vs, h1, h2, h3, h4, h5, h6⟩⟩ := ow.pq
  refine ⟨q, vs, h1, h2, by rw [h5.length, sizeLine_eq]; omega, ow.n.write (.inr h4) h3, ow.s, p, q, hpq, o3.write (fun ho z => hpq ho rfl z) rfl, ⟨_, h1, upd_same, h3, h4, h5.append (.cons rv .nil), by rw [List.length_append]; exact hl⟩⟩
/-- both become data -/
theorem Ow.out {xs ys : List PyData} (ow : Ow K G0 H0 G σ H ρ (some xs) (some ys)) : ∃ G1, NxtM [] G0 H0 G1 H ∧ Sl K G1 σ ((ρ.set 3 (some (.list xs))).set 4 (some (.list ys))) := by
  obtain ⟨p, q, hpq, ⟨vs, h1, h2, h3, h4, h5, h6⟩, ⟨ws, k1, k2, k3, k4, k5, k6⟩⟩ := ow.pq
  have npq := hpq rfl rfl
  have e1 : Same G (upd G p (.lst vs)) := same_upd h3
  have n1 := ow.n.publish (p := p) (o := .lst vs) h4 (by simp) h3 h2
  have g2 : (upd G p (.lst vs)) q = none := by rw [upd_ne npq.symm]; exact k3
  have e2 : Same (upd G p (.lst vs)) (upd (upd G p (.lst vs)) q (.lst ws)) := same_upd g2
  have n2 := n1.publish (p := q) (o := .lst ws) k4 (by simp) g2 k2
  refine ⟨_, n2, ((ow.s.mono (e1.trans e2)).add h1 ?_).add k1 ?_⟩
  · exact .lst (e2 _ _ upd_same) (h5.mono (e1.trans e2))
  · exact .lst upd_same (k5.mono (e1.trans e2))
end
section
variable {X : Cx} {G0 H0 : Hp} {st : Stmt} {rest : List Stmt} {e : Expr} {t : DE} {pos p1 p2 p3 p4 : Pos} {x : Str}
theorem pw_cons {ts : WSt → Option WSt} {us : WSt → Option PyData} (h1 : PS X st (liW X.K G0 H0 ts)) (h2 : PSs X rest (liWR X.K G0 H0 us)) : PSs X (st :: rest) (liWR X.K G0 H0 (wBind ts us)) := PSs.imp (pss_cons h1 h2) fun D σ H ⟨G, ρ, a, b, d, ow, e, k⟩ => by
  unfold wBind at e
  split at e
  · rename_i w h
    exact ⟨G, ρ, a, b, w.1, w.2.1, w.2.2, ow, h, fun σ' G' H' ow' => ⟨G', _, _, _, d, ow', e, k⟩⟩
  · cases e
theorem pw_pure {ts : DS} (h : PS X st (liS X.K [3, 4] ts)) : PS X st (liW X.K G0 H0 (wPure ts)) := PS.imp h fun D σ H ⟨G, ρ, a, b, ρ', a', b', ow, e, k⟩ => by
  unfold wPure at e
  split at e
  · rename_i ρ2 h
    cases e
    obtain ⟨p, q, hpq, o3, o4⟩ := ow.pq
    exact ⟨G, ρ, .nx ρ', ow.n.v, ow.s, h, fun σ' G' H' n s f => k σ' G' H' ⟨ow.n.step0 n, s, p, q, hpq, o3.next n (f 3 (by simp)), o4.next n (f 4 (by simp))⟩⟩
  · cases e
theorem pw_ret (he : PE X e (liE X.K t)) : PSs X [.Return (some e) pos] (liWR X.K G0 H0 (wRet t)) := PSs.imp (pss_one (ps_ret he)) fun D σ H ⟨G, ρ, a, b, d, ow, e, k⟩ => by
  unfold wRet at e
  dsimp only at e
  split at e
  · obtain ⟨G1, n1, s1⟩ := ow.out
    exact ⟨G1, _, d, n1.v, s1, e, fun v G' H' n r => k v G' H' (n1.nxt.trans n) r⟩
  · cases e
theorem pw_new3 {es : List Expr} {t : List DE} (hN : X.N.Nodup) (hi : X.N[3]? = some x) (hx : Loc X.env.scope x) (he : PA X es (liA X.K (dArgs t))) (hs : swapsWith (.List es p2) (some (.Name x p1)) pos.line X.env = pure false := by rfl) (hf : X.fn x = true ∨ X.env.scope.names.lookup x = some .local := by first | exact .inl rfl | exact .inr rfl | assumption) :
    PS X (.Assign [.Name x p1] (.List es p2) pos) (liW X.K G0 H0 (wNew3 (dArgs t))) := PS.imp (ps_set hN hi hx (pe_lst he) hs hf) fun D σ H ⟨G, ρ, a, b, ρ', a', b', ow, e, k⟩ => by
  unfold wNew3 at e
  split at e
  · rename_i ds h
    split at e
    · rename_i hl
      cases e
      refine ⟨G, ρ, ds, ow.n.v, ow.s, h, fun vs G1 H1 n1 r1 => ⟨by rw [r1.length]; exact small_line (by omega), fun r hr => ?_⟩⟩
      exact k _ G1 _ ((ow.next n1).new3 hr r1 hl.1 hl.2)
    · cases e
  · cases e
theorem pw_new4 {es : List Expr} {t : List DE} (hN : X.N.Nodup) (hi : X.N[4]? = some x) (hx : Loc X.env.scope x) (he : PA X es (liA X.K (dArgs t))) (hs : swapsWith (.List es p2) (some (.Name x p1)) pos.line X.env = pure false := by rfl) (hf : X.fn x = true ∨ X.env.scope.names.lookup x = some .local := by first | exact .inl rfl | exact .inr rfl | assumption) :
    PS X (.Assign [.Name x p1] (.List es p2) pos) (liW X.K G0 H0 (wNew4 (dArgs t))) := PS.imp (ps_set hN hi hx (pe_lst he) hs hf) fun D σ H ⟨G, ρ, a, b, ρ', a', b', ow, e, k⟩ => by
  unfold wNew4 at e
  split at e
  · rename_i ds h
    split at e
    · rename_i hl
      cases e
      refine ⟨G, ρ, ds, ow.n.v, ow.s, h, fun vs G1 H1 n1 r1 => ⟨by rw [r1.length]; exact small_line (by omega), fun r hr => ?_⟩⟩
      exact k _ G1 _ ((ow.next n1).new4 hr r1 hl.1 hl.2)
    · cases e
  · cases e
theorem pw_cat3 (hN : X.N.Nodup) (hi : X.N[3]? = some x) (hx : Loc X.env.scope x) (hv : PE X (.Name x p3) (tVar 3)) (he : PE X e (liE X.K t)) (hs : swapsWith (.BinOp (.Name x p3) .Add e p2) (some (.Name x p1)) pos.line X.env = pure false := by rfl) (hf : X.fn x = true ∨ X.env.scope.names.lookup x = some .local := by first | exact .inl rfl | exact .inr rfl | assumption) :
    PS X (.Assign [.Name x p1] (.BinOp (.Name x p3) .Add e p2) pos) (liW X.K G0 H0 (wCat3 t)) := PS.imp (ps_set hN hi hx (pe_op op_cat hv he) hs hf) fun D σ H ⟨G, ρ, a, b, ρ', a', b', ow, e, k⟩ => by
  unfold wCat3 at e
  dsimp only at e
  split at e
  · rename_i xs ds h
    split at e
    · rename_i hl
      cases e
      obtain ⟨p, q, hpq, ⟨vs, h1, h2, h3, h4, h5, h6⟩, o4⟩ := ow.pq
      refine ⟨.ref p, h1, G, ρ, _, ow.n.v, ow.s, h, fun v G1 H1 n1 r1 => ?_⟩
      cases r1 with
      | @lst c ys _ hc rc =>
        refine ⟨p, c, vs, ys, rfl, rfl, n1.h _ _ h2, n1.v _ _ hc, by rw [h5.length, rc.length]; exact small_line (by omega), fun r hr => ?_⟩
        exact k _ G1 _ ((ow.next n1).new3 hr ((h5.mono n1.g).append rc) (by rw [List.length_append]; exact hl.1) hl.2)
    · cases e
  · cases e
theorem pw_cat4 (hN : X.N.Nodup) (hi : X.N[4]? = some x) (hx : Loc X.env.scope x) (hv : PE X (.Name x p3) (tVar 4)) (he : PE X e (liE X.K t)) (hs : swapsWith (.BinOp (.Name x p3) .Add e p2) (some (.Name x p1)) pos.line X.env = pure false := by rfl) (hf : X.fn x = true ∨ X.env.scope.names.lookup x = some .local := by first | exact .inl rfl | exact .inr rfl | assumption) :
    PS X (.Assign [.Name x p1] (.BinOp (.Name x p3) .Add e p2) pos) (liW X.K G0 H0 (wCat4 t)) := PS.imp (ps_set hN hi hx (pe_op op_cat hv he) hs hf) fun D σ H ⟨G, ρ, a, b, ρ', a', b', ow, e, k⟩ => by
  unfold wCat4 at e
  dsimp only at e
  split at e
  · rename_i xs ds h
    split at e
    · rename_i hl
      cases e
      obtain ⟨p, q, hpq, o3, ⟨vs, h1, h2, h3, h4, h5, h6⟩⟩ := ow.pq
      refine ⟨.ref q, h1, G, ρ, _, ow.n.v, ow.s, h, fun v G1 H1 n1 r1 => ?_⟩
      cases r1 with
      | @lst c ys _ hc rc =>
        refine ⟨q, c, vs, ys, rfl, rfl, n1.h _ _ h2, n1.v _ _ hc, by rw [h5.length, rc.length]; exact small_line (by omega), fun r hr => ?_⟩
        exact k _ G1 _ ((ow.next n1).new4 hr ((h5.mono n1.g).append rc) (by rw [List.length_append]; exact hl.1) hl.2)
    · cases e
  · cases e
theorem pw_app3 (h : PS X st (tApp 3 (liE X.K t))) : PS X st (liW X.K G0 H0 (wApp3 t)) := PS.imp h fun D σ H ⟨G, ρ, a, b, ρ', a', b', ow, e, k⟩ => by
  unfold wApp3 at e
  dsimp only at e
  split at e
  · rename_i xs d h
    split at e
    · rename_i hl
      cases e
      obtain ⟨p, q, hpq, ⟨vs, h1, h2, _⟩, o4⟩ := ow.pq
      refine ⟨p, h1, ⟨vs, h2⟩, G, ρ, d, ow.n.v, ow.s, h, fun v G1 H1 n1 r1 => ?_⟩
      obtain ⟨p', vs', k1, k2, k3, ow'⟩ := (ow.next n1).app3 r1 hl
      rw [h1] at k1
      cases k1
      exact app_in k2 k3 (k _ G1 _ ow')
    · cases e
  · cases e
theorem pw_app4 (h : PS X st (tApp 4 (liE X.K t))) : PS X st (liW X.K G0 H0 (wApp4 t)) := PS.imp h fun D σ H ⟨G, ρ, a, b, ρ', a', b', ow, e, k⟩ => by
  unfold wApp4 at e
  dsimp only at e
  split at e
  · rename_i xs d h
    split at e
    · rename_i hl
      cases e
      obtain ⟨p, q, hpq, o3, ⟨vs, h1, h2, _⟩⟩ := ow.pq
      refine ⟨q, h1, ⟨vs, h2⟩, G, ρ, d, ow.n.v, ow.s, h, fun v G1 H1 n1 r1 => ?_⟩
      obtain ⟨p', vs', k1, k2, k3, ow'⟩ := (ow.next n1).app4 r1 hl
      rw [h1] at k1
      cases k1
      exact app_in k2 k3 (k _ G1 _ ow')
    · cases e
  · cases e
end
end Od
end
section
set_option maxHeartbeats 4000000
/-! OdHold: an error that is caught and held behind its try. -/
namespace Od
open PySem PySem.Spec PyProof.Rows L2
/-- X() -/
theorem pmk_bare {X : Cx} {C : Addr} {chain : List Value} {B newId initId : String} {x : Str} {p pos : Pos} (F : ExcBaseFacts B newId initId chain) (q : PySem.W.excIn X.K C chain newId = true) (gC : X.mg x = some (.ref C)) (kC : PySem.W.keepIn X.K (.ref C) = true) (r : Raises X (.ref C)) (hg : Gl X x)
    (hdb : (x == ("__debug__" : Str)) = false := by decide) : PMk X (.Call (.Name x p) [] [] pos) (fun _ H Q => Q (.ref C) none H) := fun pins s σ H Q I h => by
  refine wpAny_Call_Name_kw (ld_glob I hg gC ?_ hdb)
  refine PySem.W.callWith_K0 I.kIn kC ?_
  obtain ⟨chn, ns, _, _, _, _, _, _, _, _, _, _, _, _, _, _, _, oC, oN, noInit, tl⟩ := exc_obj I.kIn q
  exact wpAny_call_exc_subT F tl oC oN noInit (fun h' e hm => mk_of I hm r h (I.hok.gone hm.new)) (Nat.zero_le _)
/-- an error of the class, held -/
def HeldE (a : Addr) (cls : Value) (d : Option Addr) : HO := .ext fun h => ∃ oe : Obj, h.get? a = some oe ∧ Zc cls d oe ∧ ∃ vs, oe.data = .fields vs
section
variable {X : Cx} {pins : List (Addr × Obj)} {σ : L2.St} {H : Hp} {s : Shared} {a : Addr} {cls : Value} {d : Option Addr} {oe : Obj} {vs : Array Value}
/-- what stands in the heap is told in the abstract one -/
theorem inv_tell (I : Inv X pins σ H s) (he : s.heap.get? a = some oe) (hz : Zc cls d oe) (hd : oe.data = .fields vs) (hn : H a = none) (h0 : X.s_0.heap.get? a = none) (hl : a ≠ X.env.locals) (hp : ∀ p ∈ X.pn ++ pins, p.1 ≠ a) : Inv X pins σ (upd H a (HeldE a cls d)) s := by
  have new : ObjOk X.prog X.w (upd H a (HeldE a cls d)) s.heap a (HeldE a cls d) := ⟨⟨oe, he, hz, vs, hd⟩, ⟨oe, he⟩, fun h1 h2 ⟨o, z1, z2⟩ k => ⟨o, k o z1, z2⟩⟩
  have far : ∀ {b : Addr} {u : HO}, H b = some u → upd H a (HeldE a cls d) b = some u := fun q => by
    rw [upd_ne (ne_of_none q hn)]
    exact q
  have base : Un X.fs X.ex X.H_0 (upd H a (HeldE a cls d)) X.s_0.heap s.heap :=
    { keep := I.base.keep
      slot := I.base.slot
      free := fun b o q n hx => by
        rw [upd_ne (fun z => by rw [z, h0] at q; cases q)]
        exact I.base.free b o q n hx
      there := I.base.there
      tups := fun b xs q => far (I.base.tups b xs q)
      frzs := fun b o u q => far (I.base.frzs b o u q)
      tbls := fun b ps q => let ⟨more, z⟩ := I.base.tbls b ps q; ⟨more, far z⟩ }
  have cellNe : ∀ x c, X.env.cells.lookup x = some c → c ≠ a := fun x c e z => by
    obtain ⟨v, o, ho, hv⟩ := I.cell x c e
    rw [z, he] at ho
    cases ho
    rw [hd] at hv
    cases hv
  exact ⟨I.ok, I.os, I.bare, base, I.loc, I.cell, by rw [upd_ne (Ne.symm hl)]; exact I.free, fun x c e => by rw [upd_ne (cellNe x c e)]; exact I.freeC x c e, fun p hm => by
    obtain ⟨z1, z2, z3⟩ := I.pin p hm
    exact ⟨z1, by rw [upd_ne (hp p hm)]; exact z2, z3⟩, I.hok.laidN (fun _ _ z => z) hn new, I.len⟩
/-- isinstance of such an error -/
theorem isi_held {D : Addr} (C : ExcC X.K D) : CallR X (.builtin "isinstance") (fun xs H Q => ∃ (a : Addr) (c : V) (cv : Value) (b : Bool), xs = [.ref a, c] ∧ H a = some (HeldE a (.ref D) none) ∧ (∀ u, RelV c u → u = cv) ∧ PySem.W.kitOne X.K (.ref D) cv = some b ∧ Q (.bl b) H) := by
  intro pins s σ H xs us Q I r h
  obtain ⟨a, c, cv, b, rfl, ha, hcv, e, q⟩ := h
  cases r with
  | cons rx rr =>
    cases rr with
    | cons rt rr =>
      cases rr
      cases rx
      have ec := hcv _ rt
      subst ec
      have x : ObjOk X.prog X.w H s.heap a (.ext fun h => ∃ oe : Obj, h.get? a = some oe ∧ Zc (.ref D) none oe ∧ ∃ vs, oe.data = .fields vs) := I.hok a _ ha
      obtain ⟨⟨oe, hget, hz, vs, hv⟩, _, _⟩ := x
      have J : PySem.W.InstAt s.heap a oe D none := by
        obtain ⟨k, kd, kda, ksl⟩ := oe
        cases hz.1
        cases hz.2
        cases hv
        exact ⟨hget, rfl, rfl, trivial⟩
      exact PySem.W.kia_one (PySem.W.handS_kitx_exc C.hg C.hk C.hs C.hd C.ha C.hn C.ht C.hm) I.kIn J e (fun z => nomatch z) fun tk => ⟨.bl b, H, I.kept (t' := tk) fun _ _ z => z, rfl, q⟩
end
end Od
end
section
set_option maxHeartbeats 4000000
/-! OdTry: try: body / except x as n: suite, where the suite may keep the error. -/
namespace Od
open PySem PySem.Spec PyProof.Rows L2
def keepEnds (i : Nat) (a : Addr) (cls : Value) (d : Option Addr) (D : Ends) : Ends := { nx := fun σ H => D.nx (σ.set i none) (upd H a (HeldE a cls d)), rt := fun _ _ => False, bk := fun _ _ => False, ct := fun _ _ => False }
def wKeep (K : PySem.W.Frag) (c : Value) (i : Nat) (ts : Addr → Value → Option Addr → TS) (D : Ends) : WX := fun cls d σ H => PySem.W.exmOne K cls c = some true ∧ ∀ a, H a = none → ts a cls d (keepEnds i a cls d D) (σ.set i (some (.ref a))) H
section
variable {X : Cx} {x n : Str} {c : Value} {i : Nat} {body suite : List Stmt} {b₀ : Stmt} {np pos pos' : Pos} {tb : WX → TS} {ts : Addr → Value → Option Addr → TS}
theorem ps_try_keep (stk : X.stack = X.env :: X.outer) (frm : X.env.frame = some X.env.locals) (noex : X.ex = []) (hN : X.N.Nodup) (hi : X.N[i]? = some n) (hln : X.env.kindOf n = some .local) (hc : Names X x c)
    (hb : ∀ (W : WX) (pn : List (Addr × Obj)) (xe : Value → Shared → Prop), Takes (X.tr pn xe) W → PassesOwn (model X.prog X.w) X.A X.env xe → PSs (X.tr pn xe) body (tb W))
    (hsu : ∀ (a : Addr) (oe : Obj) (cls : Value) (d : Option Addr) (pn : List (Addr × Obj)), Zc cls d oe → (∃ vs, oe.data = .fields vs) → PSs (X.suite a ((a, oe) :: pn)) (b₀ :: suite) (ts a cls d)) :
    PS X (.Try body [.ExceptHandler (some (.Name x np)) (some n) (b₀ :: suite) pos'] [] [] pos) (fun D σ H => tb (wKeep X.K c i ts D) D σ H) := by
  refine ⟨fun pins s σ H D I h => wpAny_Try_except ?_⟩
  have ok := I.ok
  have top : X.A.frames = some (X.env :: X.outer) := ok.frames.trans (congrArg some stk)
  refine wpAny_mono ((hb (wKeep X.K c i ts D) (X.pn ++ pins) (fun e t => wpAny (model X.prog X.w) X.A (noteFrame e X.env) (fun _ t1 => wpAny (model X.prog X.w) X.A (setFlight e none) (fun _ t2 =>
    wpAny (model X.prog X.w) X.A (handleBy e X.env [.ExceptHandler (some (.Name x np)) (some n) (b₀ :: suite) pos']) (SP X pins D) X.xe t2) X.xe t1) X.xe t) (fun u t out => ?_) PassesOwn.looking).run [] s σ H D (I.toTry _) h) (fun fl t hsp => ?_) (fun _ _ z => z)
  · obtain ⟨a, B, sI, ps, τ, J, cls, d, rfl, IT, ground, ups, sky, noa, eos, bare, hex, hyes⟩ := out
    have I1 : Inv X pins τ J sI := IT.ofTry ok
    rw [show (X.tr (X.pn ++ pins) _).stack = X.env :: X.outer from stk] at sky
    refine Sky.land Zc.steady top frm sky fun g1 f1 u1 => ?_
    obtain ⟨oe, vs, at1, z1, d1⟩ := f1.there
    have away : a ∉ frs (X.env :: X.outer) := fun m => by
      obtain ⟨_, o, e, nd⟩ := f1.2.2.1.mem m
      rw [at1] at e
      cases e
      exact nd _ d1
    have nL : a ≠ X.env.locals := fun z => away (List.mem_filterMap.mpr ⟨X.env, List.mem_cons_self, by rw [frm, z]⟩)
    have nF : a ∉ X.fs := fun m => by
      obtain ⟨e, me, q⟩ := List.mem_filterMap.mp m
      exact away (List.mem_filterMap.mpr ⟨e, List.mem_cons_of_mem _ me, q⟩)
    -- the error is new behind the entry
    have fresh : sI.heap.get? a = none := by
      cases q : sI.heap.get? a with
      | none => rfl
      | some o =>
        have z := ground a o q (by show a ∉ frs X.stack; rw [stk]; exact away)
        rw [f1.2.1] at z
        cases z
    have old : X.s_0.heap.get? a = none := by
      cases q : X.s_0.heap.get? a with
      | none => rfl
      | some o =>
        obtain ⟨o', z⟩ := I1.base.there a o q (by rw [noex]; simp)
        rw [fresh] at z
        cases z
    have apart : ∀ p ∈ X.pn ++ pins, p.1 ≠ a := fun p m z => by
      have w := (I1.pin p m).1
      rw [z, fresh] at w
      cases w
    have down : ∀ {g : Heap}, B.StaysIn g → t.heap.UpToSlots g → Inv X pins τ J { t with heap := g } := fun b1 b2 => I1.landed ground b1 (ups.trans b2) eos bare
    have S1 := (down f1.1 u1).suite at1 d1 noa nL nF
    refine wpAny_handleBy_cons (codeAny_handlers_test ?_) (by intro q; cases q)
    have kind : PySem.W.Looks (model X.prog X.w) g1 (typeOf (.ref a)) cls := fun A Q E s k q => wpAny_typeOf_ref (k _ _ at1) (by rw [z1.1]; exact q)
    have caught := PySem.W.exm_one (M := model X.prog X.w) ((down f1.1 u1).kIn) kind hex
    have read : ∀ {Q : Value → Shared → Prop} {E : Value → Shared → Prop}, Q c { t with heap := g1 } → wpAny (model X.prog X.w) (X.A.mark (some (.ref a))) (eval (.Name x np) X.env) Q E { t with heap := g1 } := fun q => by
      rcases hc with ⟨gl, dbg, own | ⟨none_, boot, nm⟩⟩
      · exact ld_glob (X := X.suite a ((a, oe) :: (X.pn ++ pins))) S1 gl own q dbg
      · exact ld_blt (X := X.suite a ((a, oe) :: (X.pn ++ pins))) S1 gl none_ boot q nm dbg
    refine read (caught.here (codeAny_handlers_suite_as (HandSPX.lands_againZ f1 fun g2 f2 u2 => ?_)))
    obtain ⟨oe2, vs2, at2, z2, d2⟩ := f2.there
    refine store_ok (X := X.suite a ((a, oe2) :: (X.pn ++ pins))) (v := .ref a) ((down f2.1 (u1.trans u2)).suite at2 d2 noa nL nF) hN hi (.inl hln) rfl (fun s5 S5 => ?_) (.inr hln)
    refine wpAny_mono ((hsu a oe2 cls d (X.pn ++ pins) z2 ⟨_, d2⟩).run [] s5 _ J _ S5 (hyes a noa)) (fun fl s6 hsp => ?_) (fun _ _ z => z.elim)
    cases fl with
    | next =>
      obtain ⟨τ6, J6, S6, q6⟩ := hsp
      obtain ⟨e6, n6, _⟩ := S6.pin (a, oe2) (List.mem_append.mpr (.inl List.mem_cons_self))
      exact gone_ok (inv_tell (S6.unsuite ok) e6 z2 d2 n6 old nL apart) hN hi hln fun s7 I7 => ⟨_, _, I7, q6⟩
    | brk => exact hsp.elim fun _ y => y.elim fun _ y => y.2.elim
    | cont => exact hsp.elim fun _ y => y.elim fun _ y => y.2.elim
    | ret u => exact hsp.elim fun _ y => y.elim fun _ y => y.elim fun _ y => y.2.2.elim
  · refine match fl, hsp with
      | .next, ⟨τ, J, I1, q⟩ => wpAny_execs_nil ⟨τ, J, I1.ofTry ok, q⟩
      | .brk, ⟨τ, J, I1, q⟩ => ⟨τ, J, I1.ofTry ok, q⟩
      | .cont, ⟨τ, J, I1, q⟩ => ⟨τ, J, I1.ofTry ok, q⟩
      | .ret u, ⟨v, τ, J, I1, r, q⟩ => ⟨v, τ, J, I1.ofTry ok, r, q⟩
end
end Od
end
section
set_option maxHeartbeats 4000000
/-! OdRaise: the ways that raise OtherBook. -/
namespace Od
open PySem PySem.Spec PyProof.Rows L2
/-- the promise: at these arguments it raises an error of the class at C -/
def spX (C : Addr) (K : PySem.W.Frag) (n : Nat) (r : List PyData → Bool) : Sp := fun vs H Q E => vs.length = n ∧ ∃ G ds, Same G H ∧ RpAll K G vs ds ∧ r ds = true ∧ ∀ H', Same H H' → E (.ref C) none H'
/-- a reading that raises -/
def liX (K : PySem.W.Frag) (t : DA) (r : List PyData → Bool) (W : L2.St → Hp → Prop) : L2.St → Hp → Prop := fun σ H => ∃ G ρ ds, Same G H ∧ Sl K G σ ρ ∧ t ρ = some ds ∧ r ds = true ∧ ∀ H', Same H H' → W σ H'
theorem PSs.void {X : Cx} {sts : List Stmt} : PSs X sts (fun _ _ _ => False) := ⟨fun _ _ _ _ _ _ h => h.elim⟩
theorem PE.either {X : Cx} {e : Expr} {t u : TE} (a : PE X e t) (b : PE X e u) : PE X e (fun σ H Q => t σ H Q ∨ u σ H Q) := ⟨fun pins s σ H Q I h => h.elim (a.run pins s σ H Q I) (b.run pins s σ H Q I)⟩
section
variable {P : Program} {w : World} {K : PySem.W.Frag} {mg : Str → Option Value} {base : Heap} {k : Nat} {x : Str} {st : Stmt} {N ps : List Str}
theorem DefAt.okX (F : DefAt K mg x st) (S : FnScope N ps (defScope st)) {sp : Sp}
    (hb : ∀ (kV doc pm : Value) (an : Option Addr) (cdv ct : Value) (us : List Value), us.length = ps.length → bindArgs (PySem.W.fnOf x x (defArgs st) (defBody st) (defScope st) .none kV doc pm an cdv ct) ⟨us, []⟩ = pure (ps.zip us))
    (hbk : ∀ (kV doc pm : Value) (an : Option Addr) (cdv ct : Value) (us : List Value), us.length = ps.length → bindArgs (PySem.W.fnOf x x (defArgs st) (defBody st) (defScope st) .none kV doc pm an cdv ct) ⟨[], ps.zip us⟩ = pure (ps.zip us))
    (len : ∀ vs H Q E, sp vs H Q E → vs.length = ps.length)
    (hbody : ∀ (f : Addr) (cdv : Value) (A : Around) (outer : List Env) (s : Shared) (H : Hp) (vs : List V) (Q : VK) (E : XK), Room k (A.deeper (envOfC x (defScope st) s.heap.objs.size f cdv)) → sp vs H Q E →
      ∃ t, PSs (cxOf (L2.CX P w) P w K mg base N x (defScope st) f cdv A outer s H E) (defBody st) t ∧ t { nx := fun _ H' => Q .non H', rt := Q } (L2.start N vs) H) :
    DefOk P w K mg base (L2.CX P w) (k + 1) x ps sp := by
  obtain ⟨f, fd, F, hm⟩ := F.ex
  exact ⟨f, fd, Fun.okX F S len (hbody f), hm, F.kp, F.binds hb, Fun.kb F hbk⟩
/-- x(k = v, ..) where errors leave as the slots say -/
theorem pe_defKS {X : Cx} {CX : CXT} {sp : Sp} {E : L2.St → XK} {kws : List Keyword} {tk : TA} {p pos : Pos} (D : DefOk X.prog X.w X.K X.mg X.base CX k x ps sp) (hr : Room k X.A) (hg : Gl X x) (hx : ∀ σ, PassesAt CX X σ (E σ))
    (hkw : PK X kws tk) (hall : (backToKw pos (keywordEach kws X.env)).all (·.1.isSome) = true := by rfl) (hks : (backToKw pos (keywordEach kws X.env)).filterMap (·.1) = ps := by rfl) (hdb : (x == ("__debug__" : Str)) = false := by decide)
    (hpl : ((backTo pos (starEach [] X.env)).any (·.1) || (backToKw pos (keywordEach kws X.env)).any (·.1.isNone)) = false := by rfl) :
    PE X (.Call (.Name x p) [] kws pos) (fun σ H Q => tk σ H fun vs H1 => sp vs H1 Q (E σ)) := by
  obtain ⟨f, fd, F, m, kp, b, kb⟩ := D.ex
  refine ⟨fun pins s σ H Q I h => ?_⟩
  refine wpAny_Call_Name_kw (ld_glob I hg m ?_ hdb)
  refine PySem.W.callWith_KW0 (h₀ := X.base) I.ok.mod.kin kp hall (thn (hkw.run pos pins s σ H _ I h) fun ws s2 ⟨zs, H2, I2, rz, q2⟩ => ⟨I2.kIn, ?_⟩) hpl
  rw [hks]
  have hl : ws.length = ps.length := by rw [← rz.length]; exact F.len _ _ _ _ q2
  refine wpAny_call (codeAny_mono (F.run X.A X.stack s2 H2 ⟨[], ps.zip ws⟩ ws zs Q (E σ) hr I2.env0 (kb s2 ws I2.kIn hl) rz q2) fun r s' hq => ?_)
  cases r with
  | error e => exact hx σ pins H2 s2 e s' I2 hq
  | ok fl =>
    cases fl with
    | ret u => exact I2.after hq
    | next => exact False.elim hq
    | brk => exact False.elim hq
    | cont => exact False.elim hq
theorem pd_defKX {X : Cx} {C : Addr} {W : WX} {r : List PyData → Bool} {kws : List Keyword} {ts : List DE} {p pos : Pos} (D : DefOk X.prog X.w X.K X.mg X.base (L2.CX X.prog X.w) k x ps (spX C X.K ps.length r)) (hr : Room k X.A) (hg : Gl X x) (tk : Takes X W)
    (hkw : PdK X kws ts) (hz : ts.length = ps.length := by rfl) (hall : (backToKw pos (keywordEach kws X.env)).all (·.1.isSome) = true := by rfl) (hks : (backToKw pos (keywordEach kws X.env)).filterMap (·.1) = ps := by rfl) (hdb : (x == ("__debug__" : Str)) = false := by decide)
    (hpl : ((backTo pos (starEach [] X.env)).any (·.1) || (backToKw pos (keywordEach kws X.env)).any (·.1.isNone)) = false := by rfl) :
    PE X (.Call (.Name x p) [] kws pos) (fun σ H _ => liX X.K (dArgs ts) r (fun σ H => W (.ref C) none σ H) σ H) :=
  PE.imp (pe_defKS D hr hg (fun σ => passAt tk σ) hkw hall hks hdb hpl) fun σ H Q ⟨G, ρ, ds, vw, s, h1, hr1, q⟩ =>
    ⟨G, ρ, ds, vw, s, h1, fun vs G1 H1 n1 r1 => ⟨by rw [r1.length, dArgs_length h1, hz], G1, ds, n1.v, r1, hr1, fun H' h' => q H' (n1.h.trans h')⟩⟩
theorem pd_defX {X : Cx} {C : Addr} {E : XK} {r : List PyData → Bool} {e : Expr} {es : List Expr} {ts : List DE} {p pos : Pos} (D : DefOk X.prog X.w X.K X.mg X.base (L2.CX X.prog X.w) k x ps (spX C X.K ps.length r)) (hr : Room k X.A) (hg : Gl X x) (tk : Takes X (fun cls d _ H => E cls d H))
    (ha : PA X (e :: es) (liA X.K (dArgs ts))) (hz : ts.length = ps.length := by rfl) (hdb : (x == ("__debug__" : Str)) = false := by decide) (he : starEach (e :: es) X.env = (false, eval e X.env) :: starEach es X.env := by rfl) (hpl : (backTo pos (starEach es X.env)).any (·.1) = false := by rfl) :
    PE X (.Call (.Name x p) (e :: es) [] pos) (fun σ H _ => liX X.K (dArgs ts) r (fun _ H => E (.ref C) none H) σ H) :=
  PE.imp (pe_defP D hr hg (passes_call tk (fun _ _ _ _ h => h)) ha hdb he hpl) fun σ H Q ⟨G, ρ, ds, vw, s, h1, hr1, q⟩ =>
    ⟨G, ρ, ds, vw, s, h1, fun vs G1 H1 n1 r1 => ⟨by rw [r1.length, dArgs_length h1, hz], G1, ds, n1.v, r1, hr1, fun H' h' => q H' (n1.h.trans h')⟩⟩
/-! ### check_same -/
/-- what the written part says of the class OtherBook -/
structure OthC (K : PySem.W.Frag) (mg : Str → Option Value) (C : Addr) : Prop where
  g : mg "OtherBook" = some (.ref C)
  x : PySem.W.excIn K C [.type "ValueError", .type "Exception", .type "BaseException", .type "object"] "ValueError.__new__" = true
  k : PySem.W.keepIn K (.ref C) = true
  b : PySem.W.subIn K (.ref C) (.type "BaseException") = some true
  t : PySem.W.typeIn K (.ref C) = some (.type "type")
  e : PySem.W.exmOne K (.ref C) (.ref C) = some true
  c : ExcC K C
  v : PySem.W.kitOne K (.ref C) (.type "ValueError") = some true
def sameC : DT := dOrT (dB (d2 neD (dN m_bills (dArgs [(dVar 0)])) (dN m_bills (dArgs [(dVar 1)])))) (dB (d2 neD (dN m_payers (dArgs [(dVar 0)])) (dN m_payers (dArgs [(dVar 1)]))))
def isT : Option Bool → Bool
  | some true => true
  | _ => false
theorem isT_eq : ∀ {o : Option Bool}, isT o = true → o = some true
  | some true, _ => rfl
  | some false, h => by cases h
  | none, h => by cases h
def r_check_same : List PyData → Bool := fun ds => isT (sameC (env0 2 ds))
theorem okX_check_same {C : Addr} (O : OthC K mg C) (F : DefAt K mg "check_same" s_check_same) (D_bills : DefOk P w K mg base CX0 9 "bills" ["book"] (spD K 1 m_bills)) (D_payers : DefOk P w K mg base CX0 1 "payers" ["book"] (spD K 1 m_payers)) : DefOk P w K mg base (L2.CX P w) 10 "check_same" ["one", "other"] (spX C K 2 r_check_same) := by
  refine F.okX (N := ["one", "other"]) (ps := ["one", "other"]) sc_check_same (fun _ _ _ _ _ _ us hl => match us, hl with | [_, _], _ => rfl) (fun _ _ _ _ _ _ us hl => match us, hl with | [_, _], _ => rfl) (fun vs H Q E h => h.1) fun f cdv A outer s H vs Q E hr h => ?_
  refine ⟨_, pss_one (ps_if (tc := liT K sameC) (PW.pt (pdw_or (pdt_cmp (op_neDD hr.units) (pd_def D_bills (hr.mono (by decide)) rfl pass0 (pda_cons (pd 0) pda_nil)) (pd_def D_bills (hr.mono (by decide)) rfl pass0 (pda_cons (pd 1) pda_nil))) (pdw_or1 (pdt_cmp (op_neDD hr.units) (pd_def D_payers (hr.mono (by decide)) rfl pass0 (pda_cons (pd 0) pda_nil)) (pd_def D_payers (hr.mono (by decide)) rfl pass0 (pda_cons (pd 1) pda_nil))))))
    (pss_one (ps_raise rfl (takes_of rfl rfl rfl rfl) (pmk_bare PySem.F.excBase_ValueError O.x O.g O.k (raises_own O.b O.t) rfl))) pss_nil), ?_⟩
  obtain ⟨_, G, ds, vw, r, hr1, q⟩ := h
  exact ⟨G, _, true, vw, sl_start r, isT_eq hr1, fun G1 H1 n1 => iteT (q H1 n1.h)⟩
theorem okX_unlike_payers {C : Addr} (F : DefAt K mg "unlike_payers" s_unlike_payers) (D_check_same : DefOk P w K mg base (L2.CX P w) 10 "check_same" ["one", "other"] (spX C K 2 r_check_same)) : DefOk P w K mg base (L2.CX P w) 11 "unlike_payers" ["one", "other"] (spX C K 2 r_check_same) := by
  refine F.okX (N := ["one", "other", "payer"]) (ps := ["one", "other"]) sc_unlike_payers (fun _ _ _ _ _ _ us hl => match us, hl with | [_, _], _ => rfl) (fun _ _ _ _ _ _ us hl => match us, hl with | [_, _], _ => rfl) (fun vs H Q E h => h.1) fun f cdv A outer s H vs Q E hr h => ?_
  refine ⟨_, pss_cons (ps_expr (pd_defX D_check_same (hr.mono (by decide)) rfl (takes_of rfl rfl rfl rfl) (pda_cons (pd 0) (pda_cons (pd 1) pda_nil)))) PSs.void, ?_⟩
  obtain ⟨hl, G, ds, vw, r, hr1, q⟩ := h
  match ds, r, hr1 with
  | [d1, d2], r, hr1 => exact ⟨G, _, [d1, d2], vw, sl_start r, rfl, hr1, fun H1 h1 => q H1 h1⟩
  | [], r, hr1 => cases r; cases hl
  | [d1], r, hr1 => rw [r.length] at hl; cases hl
  | d1 :: d2 :: d3 :: _, r, hr1 => rw [r.length] at hl; cases hl
end
end Od
end
section
set_option maxHeartbeats 4000000
/-! OdHeard: parting_payment and is_parting_payment that raise; _law_heard. -/
namespace Od
open PySem PySem.Spec PyProof.Rows L2
section
variable {P : Program} {w : World} {K : PySem.W.Frag} {mg : Str → Option Value} {base : Heap} {C : Addr}
theorem two_of {vs : List V} {ds : List PyData} {G : Hp} (hl : vs.length = 2) (r : RpAll K G vs ds) : ∃ a b, ds = [a, b] := by
  rw [r.length] at hl
  match ds, hl with
  | [a, b], _ => exact ⟨a, b, rfl⟩
theorem three_of {vs : List V} {ds : List PyData} {G : Hp} (hl : vs.length = 3) (r : RpAll K G vs ds) : ∃ a b c, ds = [a, b, c] := by
  rw [r.length] at hl
  match ds, hl with
  | [a, b, c], _ => exact ⟨a, b, c, rfl⟩
theorem okX_parting_payment (F : DefAt K mg "parting_payment" s_parting_payment) (D_unlike_payers : DefOk P w K mg base (L2.CX P w) 11 "unlike_payers" ["one", "other"] (spX C K 2 r_check_same)) : DefOk P w K mg base (L2.CX P w) 12 "parting_payment" ["one", "other"] (spX C K 2 r_check_same) := by
  refine F.okX (N := ["one", "other", "found", "place", "unpaid", "mine", "its", "bill"]) (ps := ["one", "other"]) sc_parting_payment (fun _ _ _ _ _ _ us hl => match us, hl with | [_, _], _ => rfl) (fun _ _ _ _ _ _ us hl => match us, hl with | [_, _], _ => rfl) (fun vs H Q E h => h.1) fun f cdv A outer s H vs Q E hr h => ?_
  refine ⟨_, pss_cons (ps_set (i := 2) sc_parting_payment.nd rfl (by first | exact Or.inl rfl | exact Or.inr rfl) (pd_defX D_unlike_payers (hr.mono (by decide)) rfl (takes_of rfl rfl rfl rfl) (pda_cons (pd 0) (pda_cons (pd 1) pda_nil)))) PSs.void, ?_⟩
  obtain ⟨hl, G, ds, vw, r, hr1, q⟩ := h
  obtain ⟨a, b, rfl⟩ := two_of hl r
  exact ⟨G, _, [a, b], vw, sl_start r, rfl, hr1, fun H1 h1 => q H1 h1⟩
def r_is_parting : List PyData → Bool
  | [a, b, _] => r_check_same [a, b]
  | _ => false
theorem okX_is_parting_payment (F : DefAt K mg "is_parting_payment" s_is_parting_payment) (D_check_same : DefOk P w K mg base (L2.CX P w) 10 "check_same" ["one", "other"] (spX C K 2 r_check_same)) : DefOk P w K mg base (L2.CX P w) 12 "is_parting_payment" ["one", "other", "thing"] (spX C K 3 r_is_parting) := by
  refine F.okX (k := 11) (N := ["one", "other", "thing", "dues", "payer", "amount"]) (ps := ["one", "other", "thing"]) sc_is_parting_payment (fun _ _ _ _ _ _ us hl => match us, hl with | [_, _, _], _ => rfl) (fun _ _ _ _ _ _ us hl => match us, hl with | [_, _, _], _ => rfl) (fun vs H Q E h => h.1) fun f cdv A outer s H vs Q E hr h => ?_
  refine ⟨_, pss_cons (ps_expr (pd_defX D_check_same (hr.mono (by decide)) rfl (takes_of rfl rfl rfl rfl) (pda_cons (pd 0) (pda_cons (pd 1) pda_nil)))) PSs.void, ?_⟩
  obtain ⟨hl, G, ds, vw, r, hr1, q⟩ := h
  obtain ⟨a, b, c, rfl⟩ := three_of hl r
  exact ⟨G, _, [a, b], vw, sl_start r, rfl, hr1, fun H1 h1 => q H1 h1⟩
/-! ### _law_heard -/
abbrev s_law_heard : Stmt := topS 57
abbrev N_heard : List Str := ["_law_one_so", "_law_two_so", "_law_door", "_law_caught", "error_so"]
theorem sc_law_heard : FnScope N_heard ["_law_one_so", "_law_two_so", "_law_door"] (defScope s_law_heard) := ⟨rfl, rfl, rfl, by decide +kernel, rfl, by decide +kernel, by decide +kernel⟩
def m_asked (one two : PyData) (door : Int) : Option PyData := if door = 0 then m_unlike_payers [one, two] else if door = 1 then m_parting_payment [one, two] else m_is_parting_payment [one, two, .none]
def m_law_heard : List PyData → Option PyData
  | [one, two, .int door] => if r_check_same [one, two] = true then some (.bool true) else match m_asked one two door with
    | some _ => some (.bool false)
    | none => none
  | _ => none
/-- what the try's body does -/
def tHeard (K : PySem.W.Frag) (C : Addr) (W : WX) : TS := fun D σ H => ∃ G one two door, Same G H ∧ Sl K G σ [some one, some two, some (.int door), some .none, none] ∧
  ((∃ d, m_asked one two door = some d ∧ ∀ H', Same H H' → D.nx σ H') ∨ (r_check_same [one, two] = true ∧ ∀ H', Same H H' → W (.ref C) none σ H'))
theorem eq0 {door : Int} {j : Int} {ρ : DEnv} (h : dVar 2 ρ = some (.int door)) : (dB (d2 eqD (dVar 2) (dC (.int j)))) ρ = some (door == j) := by
  unfold dB d2
  rw [h]
  rfl
theorem law_heard_ok (T : Bl mg) (O : OthC K mg C) (F : DefAt K mg "_law_heard" s_law_heard)
    (D_unlike_payers : DefOk P w K mg base CX0 11 "unlike_payers" ["one", "other"] (spD K 2 m_unlike_payers)) (D_parting_payment : DefOk P w K mg base CX0 12 "parting_payment" ["one", "other"] (spD K 2 m_parting_payment)) (D_is_parting_payment : DefOk P w K mg base CX0 12 "is_parting_payment" ["one", "other", "thing"] (spD K 3 m_is_parting_payment))
    (X_unlike_payers : DefOk P w K mg base (L2.CX P w) 11 "unlike_payers" ["one", "other"] (spX C K 2 r_check_same)) (X_parting_payment : DefOk P w K mg base (L2.CX P w) 12 "parting_payment" ["one", "other"] (spX C K 2 r_check_same)) (X_is_parting_payment : DefOk P w K mg base (L2.CX P w) 12 "is_parting_payment" ["one", "other", "thing"] (spX C K 3 r_is_parting)) :
    DefOk P w K mg base CX0 13 "_law_heard" ["_law_one_so", "_law_two_so", "_law_door"] (spD K 3 m_law_heard) := by
  refine F.okH (N := N_heard) (ps := ["_law_one_so", "_law_two_so", "_law_door"]) sc_law_heard (fun _ _ _ _ _ _ us hl => match us, hl with | [_, _, _], _ => rfl) (fun _ _ _ _ _ _ us hl => match us, hl with | [_, _, _], _ => rfl) (fun vs H Q E h => h.1) fun f cdv A outer s H vs Q E hr h => ?_
  refine ⟨_, pss_cons (ps_set (i := 3) sc_law_heard.nd rfl (by first | exact Or.inl rfl | exact Or.inr rfl) pe_non)
    (pss_cons (ps_try_keep (i := 4) (tb := tHeard K C) (ts := fun a cls d => tAsg (tVar 4) (gName 3)) rfl rfl rfl sc_law_heard.nd rfl rfl ⟨rfl, by decide, .inl O.g⟩
      (fun W pn xe tk po => PSs.imp (pss_one (ps_if (pdt_cmp (op_eqDD hr.units) (pd 2) pd_int)
        (pss_one (ps_expr (PE.either (pd_defK D_unlike_payers (hr.mono (by decide)) rfl pass0 (pdk_cons (pd 0) (pdk_cons (pd 1) pdk_nil))) (pd_defKX X_unlike_payers (hr.mono (by decide)) rfl tk (pdk_cons (pd 0) (pdk_cons (pd 1) pdk_nil))))))
        (pss_one (ps_if (pdt_cmp (op_eqDD hr.units) (pd 2) pd_int)
          (pss_one (ps_expr (PE.either (pd_defK D_parting_payment (hr.mono (by decide)) rfl pass0 (pdk_cons (pd 0) (pdk_cons (pd 1) pdk_nil))) (pd_defKX X_parting_payment (hr.mono (by decide)) rfl tk (pdk_cons (pd 0) (pdk_cons (pd 1) pdk_nil))))))
          (pss_one (ps_expr (PE.either (pd_defK D_is_parting_payment (hr.mono (by decide)) rfl pass0 (pdk_cons (pd 0) (pdk_cons (pd 1) (pdk_cons pd_non pdk_nil)))) (pd_defKX X_is_parting_payment (hr.mono (by decide)) rfl tk (pdk_cons (pd 0) (pdk_cons (pd 1) (pdk_cons pd_non pdk_nil))))))))))) ?_)
      (fun a oe cls d pn hz hf => pss_one (ps_set (i := 3) sc_law_heard.nd rfl (by first | exact Or.inl rfl | exact Or.inr rfl) (pv 4))))
    (pss_one (ps_ret (PE.either
      (pe_callB call_isi rfl T.isinstance (by decide +kernel) (pa_cons (pv 3) (pa_cons (pe_bltn (v := .ty "ValueError") rfl T.valueError boot_ValueError rfl (by decide) (by decide)) pa_nil)) (by decide) (by decide) (by rfl))
      (pe_callB (isi_held O.c) rfl T.isinstance (by decide +kernel) (pa_cons (pv 3) (pa_cons (pe_bltn (v := .ty "ValueError") rfl T.valueError boot_ValueError rfl (by decide) (by decide)) pa_nil)) (by decide) (by decide) (by rfl)))))), ?_⟩
  · rintro D σ H1 ⟨G, one, two, door, vw, sl, o⟩
    refine ⟨G, _, _, vw, sl, eq0 rfl, fun G2 H2 n2 => ?_⟩
    have sl2 := sl.mono n2.g
    by_cases h0 : door = 0
    · subst h0
      refine iteT ?_
      rcases o with ⟨d, e, q⟩ | ⟨e, q⟩
      · exact .inl ⟨G2, _, d, n2.v, sl2, e, fun v G3 H3 n3 _ => q H3 (n2.h.trans n3.h)⟩
      · exact .inr ⟨G2, _, [one, two], n2.v, sl2, rfl, e, fun H3 h3 => q H3 (n2.h.trans h3)⟩
    · rw [show (door == 0) = false from by simpa using h0]
      refine iteF ⟨G2, _, _, n2.v, sl2, eq0 rfl, fun G4 H4 n4 => ?_⟩
      have sl4 := sl2.mono n4.g
      have h24 := n2.h.trans n4.h
      by_cases h1 : door = 1
      · subst h1
        refine iteT ?_
        rcases o with ⟨d, e, q⟩ | ⟨e, q⟩
        · exact .inl ⟨G4, _, d, n4.v, sl4, e, fun v G3 H3 n3 _ => q H3 (h24.trans n3.h)⟩
        · exact .inr ⟨G4, _, [one, two], n4.v, sl4, rfl, e, fun H3 h3 => q H3 (h24.trans h3)⟩
      · rw [show (door == 1) = false from by simpa using h1]
        refine iteF ?_
        rcases o with ⟨d, e, q⟩ | ⟨e, q⟩
        · unfold m_asked at e
          rw [if_neg h0, if_neg h1] at e
          exact .inl ⟨G4, _, d, n4.v, sl4, e, fun v G3 H3 n3 _ => q H3 (h24.trans n3.h)⟩
        · exact .inr ⟨G4, _, [one, two, .none], n4.v, sl4, rfl, e, fun H3 h3 => q H3 (h24.trans h3)⟩
  · obtain ⟨hl, G, ds, d, vw, r, e, q⟩ := h
    obtain ⟨one, two, z, rfl⟩ := three_of hl r
    cases z with
    | int door =>
      have s1 : Sl K G ((L2.start N_heard vs).set 3 (some .non)) [some one, some two, some (.int door), some .none, none] := (sl_start (N := N_heard) r).set (i := 3) .non
      have l1 : ((L2.start N_heard vs).set 3 (some V.non)).length = 5 := s1.len
      unfold m_law_heard at e
      dsimp only at e
      refine ⟨G, one, two, door, vw, s1, ?_⟩
      by_cases hr1 : r_check_same [one, two] = true
      · rw [if_pos hr1] at e
        cases e
        refine .inr ⟨hr1, fun H1 h1 => ⟨O.e, fun a ha => ⟨.ref a, List.getElem?_set_self (by omega), ?_⟩⟩⟩
        refine .inr ⟨.ref a, ?_, a, .ty "ValueError", .type "ValueError", true, rfl, upd_same, fun u r => r, O.v, ?_⟩
        · rw [List.getElem?_set_ne (by decide), List.getElem?_set_self (by rw [List.length_set]; omega)]
        · exact q _ G _ (Nxt.heap vw (h1.trans (same_upd ha))) (.bl true)
      · rw [if_neg hr1] at e
        cases hm : m_asked one two door with
        | none => rw [hm] at e; cases e
        | some d' =>
          rw [hm] at e
          cases e
          refine .inl ⟨d', rfl, fun H1 h1 => .inl ⟨.non, List.getElem?_set_self (by rw [show (L2.start N_heard vs).length = 5 from (List.length_set ▸ l1)]; decide), .non, .ty "ValueError", _, _, _, rfl, .ty "ValueError", .base .non, L2.kit_ty (b := "ValueError") (a := "NoneType") (r := false) (by decide +kernel), q _ G _ (Nxt.heap vw h1) (.bl false)⟩⟩
    | _ => cases e
end
end Od
end
section
set_option maxHeartbeats 2000000
/-! OdChars: tuple(text), list(text). -/
namespace Od
open PySem PySem.Spec PyProof.Rows L2
def tupS : List PyData → Option PyData
  | [.str x] => if x.cps.size ≤ 1000 then some (.tuple (chars x)) else none
  | _ => none
def lisS : List PyData → Option PyData
  | [.str x] => if x.cps.size ≤ 1000 then some (.list (chars x)) else none
  | _ => none
def charsV (x : Str) : List V := x.cps.toList.map fun c => .str ⟨#[c]⟩
theorem charsV_rp {K : PySem.W.Frag} {G : Hp} (x : Str) : RpAll K G (charsV x) (chars x) := by
  unfold charsV chars
  generalize x.cps.toList = l
  induction l with
  | nil => exact .nil
  | cons c r ih => exact .cons (.str _) ih
theorem vals_get : ∀ {xs : List V} {us : List Value}, xs.length = us.length → (∀ (j : Nat) (v : V) (u : Value), xs[j]? = some v → us[j]? = some u → RelV v u) → Vals xs us
  | [], [], _, _ => .nil
  | v :: xs, u :: us, hl, h => .cons (h 0 v u rfl rfl) (vals_get (Nat.succ.inj hl) fun j v u a b => h (j + 1) v u a b)
  | [], _ :: _, hl, _ => by cases hl
  | _ :: _, [], hl, _ => by cases hl
theorem charsV_len (x : Str) : (charsV x).length = x.cps.size := by
  unfold charsV
  rw [List.length_map, Array.length_toList]
theorem vals_chars {x : Str} {acc : Array Value} (h : ItemsOf (SignAt x) acc x.cps.size) : Vals (charsV x) acc.toList := by
  refine vals_get (by rw [charsV_len, Array.length_toList, h.1]) fun j v u a b => ?_
  obtain ⟨c, t, hc, rfl⟩ := h.2 j u (by simpa using b)
  unfold charsV at a
  rw [List.getElem?_map, Array.getElem?_toList, hc] at a
  cases a
  exact ⟨t, rfl⟩
section
variable {X : Cx}
theorem call_tupS (hc : X.calm = true) : CallR X (.type "tuple") (rDn X.K tupS) := by
  intro pins s σ H xs us Q I r h
  obtain ⟨G, ds, d, vw, hx, e, k⟩ := h
  unfold tupS at e
  split at e
  · rename_i x
    split at e
    · rename_i hz
      cases e
      obtain ⟨v, rfl, h⟩ := one_rp hx
      cases h
      obtain ⟨u, rfl, t, rfl⟩ := vals1 r
      refine call_tuple_str (I.ok.hd hc) x t (hsz := small_line (by omega)) fun h' tk acc hk hacc => ?_
      have I1 : Inv X pins σ H { s with heap := h', toks := tk } := I.kept (t' := tk) hk
      have e1 : acc.toList.toArray = acc := by simp
      rw [← e1]
      refine lay_tup (s := { s with heap := h', toks := tk }) (t' := tk) I1 (by rw [charsV_len]; exact small_line (by omega)) (vals_chars hacc) fun p o hp ho => ?_
      exact k _ _ _ (Nxt.upd vw hp) (.tup ⟨o, ho, upd_same⟩ (charsV_rp x))
    · cases e
  · cases e
theorem call_lisS (hc : X.calm = true) : CallR X (.type "list") (rDn X.K lisS) := by
  intro pins s σ H xs us Q I r h
  obtain ⟨G, ds, d, vw, hx, e, k⟩ := h
  unfold lisS at e
  split at e
  · rename_i x
    split at e
    · rename_i hz
      cases e
      obtain ⟨v, rfl, h⟩ := one_rp hx
      cases h
      obtain ⟨u, rfl, t, rfl⟩ := vals1 r
      refine call_list_str (I.ok.hd hc) x t (hn := small_line (by omega)) fun h' tk acc c' hk hS hacc => ?_
      have hf := I.hok.fresh (Nat.le_refl s.heap.objs.size)
      refine ⟨.ref s.heap.objs.size, upd H s.heap.objs.size (.lst (charsV x)), I.laid (t' := tk) hk (Nat.le_refl _) ?_, rfl, k _ _ _ (Nxt.upd vw hf) (.lst upd_same (charsV_rp x))⟩
      exact ⟨by rw [charsV_len]; exact small_line (by omega), acc.toList, c', vals_chars hacc, by simpa using hS⟩
    · cases e
  · cases e
end
end Od
end
section
set_option maxHeartbeats 4000000
/-! OdPaper: x = f(..); x[1].append(e): what a call handed back is changed. -/
namespace Od
open PySem PySem.Spec PyProof.Rows L2
/-- no lists, no dicts -/
def onlyT : Nat → PyData → Bool
  | 0, _ => false
  | n + 1, .tuple ds => ds.all (onlyT n)
  | _ + 1, .list _ => false
  | _ + 1, .dict _ => false
  | _ + 1, _ => true
/-- the region's tuples -/
def tupR (G : Hp) : Hp := fun a => match G a with
  | some (.frz o (.tup xs)) => some (.frz o (.tup xs))
  | _ => none
theorem tupR_same {G : Hp} : Same (tupR G) G := fun b u e => by
  unfold tupR at e
  split at e
  · rename_i h
    rw [h, ← e]
  · cases e
theorem tupR_lst {G : Hp} {a : Addr} {xs : List V} : tupR G a ≠ some (.lst xs) := fun e => by
  unfold tupR at e
  split at e
  · cases e
  · cases e
theorem tupR_tup {G : Hp} {a : Addr} {xs : List V} (h : TupF G a xs) : TupF (tupR G) a xs := by
  obtain ⟨o, h1, h2⟩ := h
  refine ⟨o, h1, ?_⟩
  unfold tupR
  rw [h2]
theorem only_all {K : PySem.W.Frag} {G : Hp} {n : Nat} (ih : ∀ {v : V} {d : PyData}, onlyT n d = true → Rp K G v d → Rp K (tupR G) v d) : ∀ {vs : List V} {ds : List PyData}, ds.all (onlyT n) = true → RpAll K G vs ds → RpAll K (tupR G) vs ds
  | _, [], _, .nil => .nil
  | _, d :: ds, h, .cons r rr => by
    rw [List.all_cons, Bool.and_eq_true] at h
    exact .cons (ih h.1 r) (only_all ih h.2 rr)
theorem only_rp {K : PySem.W.Frag} {G : Hp} : ∀ {n : Nat} {v : V} {d : PyData}, onlyT n d = true → Rp K G v d → Rp K (tupR G) v d
  | 0, _, _, h, _ => by cases h
  | n + 1, v, d, h, r => by
    cases r with
    | non => exact .non
    | bl b => exact .bl b
    | int i => exact .int i
    | str x => exact .str x
    | lst _ _ => cases h
    | dic _ _ => cases h
    | tup ht rr => exact .tup (tupR_tup ht) (only_all (fun h r => only_rp h r) h rr)
section
variable {X : Cx} {o e : Expr} {to te : TE} {apos cpos pos : Pos}
theorem ps_appE (ho : PE X o to) (he : PE X e te) (hbase : attributeBase o "append" X.env (eval o X.env) = eval o X.env := by rfl) (hs : starEach [e] X.env = (false, eval e X.env) :: starEach [] X.env := by rfl)
    (hline : (apos.endLine == cpos.line) = true := by rfl) (hsw : swapsWith (.Call (.Attribute o "append" apos) [e] [] cpos) none pos.line X.env = pure false := by rfl) :
    PS X (.Expr (.Call (.Attribute o "append" apos) [e] [] cpos) pos) (tDrop (tBM X.K "list" rAppend to (tCons te tNil))) :=
  ps_expr (pe_bm PySem.F.plainAttrs_list PySem.F.slot_list_append PySem.F.type_list_append mt_append ho (pa_cons he pa_nil hs) hbase (by rw [hs] <;> rfl) hline hs (by rfl)) hsw
variable {G0 H0 : Hp} {st1 st2 : Stmt} {rest : List Stmt}
/-- slot 5 is what t makes of the data in slot 1; then its item at 1, a list, is changed: it is nobody else's -/
def wPaper (n : Nat) (t : DE) : WSt → Option WSt := fun w => match w.1[1]? with
  | some (some d) => if onlyT 9 d = true then match t ((List.replicate n none).set 1 (some d)) with
    | some (.tuple [_, .list ys]) => if ys.length ≤ 1000 then some (w.1.set 5 none, w.2.1, w.2.2) else none
    | _ => none
    else none
  | _ => none
theorem pw_paper {n : Nat} {t : DE} {us : WSt → Option PyData} (hn : 5 < n) (hN : X.N.length = n) (h1 : PS X st1 (tAsg (liE X.K t) (gName 5))) (h2 : PS X st2 (tDrop (tBM X.K "list" rAppend (liE X.K (d2 ixD (dVar 5) (dC (.int 1)))) (tCons (liE X.K (dTup [])) tNil)))) (h3 : PSs X rest (liWR X.K G0 H0 us)) :
    PSs X (st1 :: st2 :: rest) (liWR X.K G0 H0 (wBind (wPaper n t) us)) := by
  refine ⟨fun pins s σ H D I h => ?_⟩
  have hlen : σ.length = n := I.len.trans hN
  refine (pss_cons h1 (pss_cons h2 h3)).run pins s σ H D I ?_
  obtain ⟨G, ρ, a, b, d, ow, e, k⟩ := h
  unfold wBind at e
  split at e
  rotate_left
  · cases e
  rename_i w h
  unfold wPaper at h
  split at h
  rotate_left
  · cases h
  rename_i d1 hd1
  dsimp only at hd1
  split at h
  rotate_left
  · cases h
  rename_i hT
  split at h
  rotate_left
  · cases h
  rename_i x ys ht
  split at h
  rotate_left
  · cases h
  rename_i hz
  cases h
  obtain ⟨v1, hv1, r1⟩ := ow.s.at_ 1 d1 hd1
  have rt : Rp X.K (tupR G) v1 d1 := only_rp hT r1
  have vt : Same (tupR G) H := tupR_same.trans ow.n.v
  refine ⟨tupR G, _, _, vt, (Sl.none_ (n := n) hlen).add (i := 1) hv1 rt, ht, fun v5 G1 H1 n1 r5 => ?_⟩
  have hset : (σ.set 5 (some v5))[5]? = some (some v5) := List.getElem?_set_self (by omega)
  have hl5 : (σ.set 5 (some v5)).length = n := by rw [List.length_set]; exact hlen
  refine ⟨G1, (List.replicate n none).set 5 (some (.tuple [x, .list ys])), .list ys, n1.v, (Sl.none_ (n := n) hl5).add (i := 5) hset r5, ?_, fun v2 G2 H2 n2 r2 => ?_⟩
  · have e1 : dVar 5 ((List.replicate n none).set 5 (some (PyData.tuple [x, .list ys]))) = some (.tuple [x, .list ys]) := by
      unfold dVar
      rw [List.getElem?_set_self (by rw [List.length_replicate]; exact hn)]
    unfold d2
    rw [e1]
    rfl
  cases r2 with
  | @lst l zs _ hl rz =>
  have n12 := n1.trans n2
  have hH2 := n2.v _ _ hl
  have fresh : H l = none := by
    rcases n12.new l _ hl with z | z
    · exact absurd z tupR_lst
    · exact z
  refine ⟨.inl ⟨rfl, zs, SqL.of hH2⟩, G2, List.replicate n none, .tuple [], n2.v, Sl.none_ hl5, rfl, fun v3 G3 H3 n3 r3 => ?_⟩
  have hH3 := n3.h _ _ hH2
  refine ⟨l, zs, v3, rfl, rfl, hH3, by rw [rz.length, sizeLine_eq]; omega, ?_⟩
  -- behind it
  have hs3 : Same H H3 := n12.h.trans n3.h
  have nx : Nxt G H G H3 := Nxt.heap ow.n.v hs3
  have gl : G l = none := ow.n.v.free fresh
  have ow3 := ow.next nx
  obtain ⟨p, q, hpq, o3, o4⟩ := ow.pq
  have np : a.isSome = true → p ≠ l := fun ha => o3.ne (u := .lst []) fresh ha
  have nq : b.isSome = true → q ≠ l := fun hb => o4.ne (u := .lst []) fresh hb
  exact ⟨G, _, _, _, d, ⟨ow3.n.write (.inr (ow.n.free0 fresh)) gl, ow.s.forget, p, q, hpq, (o3.next nx rfl).write np (List.getElem?_set_ne (by decide)), (o4.next nx rfl).write nq (List.getElem?_set_ne (by decide))⟩, e, k⟩
end
end Od
end
section
set_option maxHeartbeats 8000000
/-! OdHand: the walk of _law_by_hand_right (printed by hand.py). -/
namespace Od
open PySem PySem.Spec PyProof.Rows L2
section
variable {P : Program} {w : World} {K : PySem.W.Frag} {mg : Str → Option Value} {base : Heap}
abbrev s_hand : Stmt := topS 59
abbrev N_hand : List Str := ["_law_bills_so", "_law_host", "_law_tidy", "_law_got", "_law_goal", "_law_paper", "_law_pairs_so", "_law_fine", "_law_zero_so", "_law_odd", "_law_soft", "_law_far", "_law_door", "_law_near", "_law_own"]
theorem sc_hand : FnScope N_hand [] (defScope s_hand) := ⟨rfl, rfl, rfl, by decide +kernel, rfl, by decide +kernel, by decide +kernel⟩

def w_hand : WSt → Option PyData :=
  (wBind (wPure (dAsg 0 (dTup [(dC (.str (Str.ofString "food"))), (dC (.str (Str.ofString "gas"))), (dC (.str (Str.ofString "rent")))])))
  (wBind (wPure (dAsg 1 (dTup [(dVar 0), (dTup [(dTup [(dC (.str (Str.ofString "ann"))), (dTup [(dC (.str (Str.ofString "rent"))), (dC (.str (Str.ofString "gas")))])]), (dTup [(dC (.str (Str.ofString "bob"))), (dTup [(dC (.str (Str.ofString "gas"))), (dC (.str (Str.ofString "rent")))])]), (dTup [(dC (.str (Str.ofString "cid"))), (dTup [(dC (.str (Str.ofString "rent"))), (dC (.str (Str.ofString "food")))])])])])))
  (wBind (wPure (dAsg 2 (dTup [(dVar 0), (dTup [(dTup [(dC (.str (Str.ofString "ann"))), (dTup [(dC (.str (Str.ofString "rent"))), (dC (.str (Str.ofString "gas")))])]), (dTup [(dC (.str (Str.ofString "bob"))), (dTup [(dC (.str (Str.ofString "gas"))), (dC (.str (Str.ofString "rent")))])]), (dTup [(dC (.str (Str.ofString "cid"))), (dTup [(dC (.str (Str.ofString "rent")))])])])])))
  (wBind (wNew3 (dArgs [(dN m_nearest_lists (dArgs [(dVar 1), (dC (.str (Str.ofString "cid")))])), (dN m_nearest_lists (dArgs [(dVar 1), (dC (.str (Str.ofString "ann")))])), (dN m_nearest_lists (dArgs [(dVar 2), (dC (.str (Str.ofString "cid")))]))]))
  (wBind (wCat3 (dLst [(dN m_unlike_payers (dArgs [(dVar 1), (dVar 2)])), (dN m_unlike_payers (dArgs [(dVar 2), (dVar 2)]))]))
  (wBind (wNew4 (dArgs [(dTup [(dC (.int 1)), (dLst [(dTup [(dC (.str (Str.ofString "food")))])])]), (dC .none), (dTup [(dC (.int 1)), (dLst [(dTup []), (dTup [(dC (.str (Str.ofString "gas"))), (dC (.str (Str.ofString "rent")))]), (dTup [(dC (.str (Str.ofString "rent"))), (dC (.str (Str.ofString "gas")))])])]), (dTup [(dC (.str (Str.ofString "cid")))]), (dTup [])]))
  (wBind (wPaper 15 (dN m_nearest_lists (dArgs [(dVar 1), (dC (.str (Str.ofString "cid")))])))
  (wBind (wApp3 (dN m_nearest_lists (dArgs [(dVar 1), (dC (.str (Str.ofString "cid")))])))
  (wBind (wApp4 (dTup [(dC (.int 1)), (dLst [(dTup [(dC (.str (Str.ofString "food")))])])]))
  (wBind (wPure (dAsg 6 (dLst [(dTup [(dC (.str (Str.ofString "abc"))), (dC (.str (Str.ofString "cab")))]), (dTup [(dC (.str (Str.ofString ""))), (dC (.str (Str.ofString "ab")))]), (dTup [(dC (.str (Str.ofString "ab"))), (dC (.str (Str.ofString "ba")))]), (dTup [(dC (.str (Str.ofString "abcdef"))), (dC (.str (Str.ofString "fedcba")))])])))
  (wBind (wPure (dAsg 6 (d2 addD (dVar 6) (dLst [(dTup [(dC (.str (Str.ofString "abcdef"))), (dC (.str (Str.ofString "acebdf")))]), (dTup [(dC (.str (Str.ofString "xyz"))), (dC (.str (Str.ofString "abc")))]), (dTup [(dC (.str (Str.ofString "abc"))), (dC (.str (Str.ofString "abc")))]), (dTup [(dC (.str (Str.ofString "badc"))), (dC (.str (Str.ofString "abcd")))])]))))
  (wBind (wApp3 (dLc (dItems (dVar 6)) (tgT [13, 11]) dYes (dN m_fewest_steps (dArgs [(dN tupS (dArgs [(dVar 13)])), (dN lisS (dArgs [(dVar 11)]))])) [13, 11]))
  (wBind (wApp4 (dLst [(dC (.int 2)), (dC (.int 2)), (dC (.int 2)), (dC (.int 10)), (dC (.int 4)), (dC (.int 6)), (dC (.int 0)), (dC (.int 4))]))
  (wBind (wCat3 (dLst [(dN m_nearest_lists (dArgs [(dTup [(dVar 0), (dTup [(dTup [(dC (.str (Str.ofString "ann"))), (dTup [(dC (.str (Str.ofString "food")))])])])]), (dC (.str (Str.ofString "ann")))]))]))
  (wBind (wCat3 (dLst [(dN m_nearest_lists (dArgs [(dTup [(dTup []), (dTup [(dTup [(dC (.str (Str.ofString "ann"))), (dTup [])])])]), (dC (.str (Str.ofString "ann")))])), (dN m_parting_payment (dArgs [(dVar 2), (dVar 2)]))]))
  (wBind (wCat4 (dLst [(dTup [(dC (.int 0)), (dLst [(dTup [(dC (.str (Str.ofString "food")))])])]), (dTup [(dC (.int 0)), (dLst [(dTup [])])]), (dC .none)]))
  (wBind (wPure (dAsg 7 (dTup [(dTup [(dTup [(dC (.str (Str.ofString "food"))), (dC (.int 1))]), (dTup [(dC (.str (Str.ofString "gas"))), (dC (.int 0))]), (dTup [(dC (.str (Str.ofString "rent"))), (dC (.int 0))])]), (dC (.str (Str.ofString "cid"))), (dC (.int 1))])))
  (wBind (wPure (dAsg 8 (dTup [(dTup [(dTup [(dC (.str (Str.ofString "food"))), (dC (.int 0))]), (dTup [(dC (.str (Str.ofString "gas"))), (dC (.int 1))]), (dTup [(dC (.str (Str.ofString "rent"))), (dC (.int 1))])]), (dC (.str (Str.ofString "cid"))), (dC (.int 5))])))
  (wBind (wPure (dAsg 9 (dLst [(dVar 8), (dTup [(d2 ixD (dVar 7) (dC (.int 0))), (dC (.str (Str.ofString "ann"))), (dC (.int 1))]), (dTup [(d2 ixD (dVar 7) (dC (.int 0))), (dC (.str (Str.ofString "cid"))), (dC (.int 0))]), (dTup [(dSl (d2 ixD (dVar 7) (dC (.int 0))) dNo (dPart (dC (.int 2)))), (dC (.str (Str.ofString "cid"))), (dC (.int 1))])])))
  (wBind (wPure (dAsg 9 (d2 addD (dVar 9) (dLst [(dTup [(d2 ixD (dVar 7) (dC (.int 0))), (dC (.str (Str.ofString "zed"))), (dC (.int 1))]), (dTup [(d2 ixD (dVar 7) (dC (.int 0))), (dC (.str (Str.ofString "cid")))]), (dC .none), (dC (.int 3)), (dC (.str (Str.ofString "cid"))), (dN lisD (dArgs [(dVar 7)]))]))))
  (wBind (wPure (dAsg 9 (d2 addD (dVar 9) (dLst [(dTup [(d2 ixD (dVar 7) (dC (.int 0))), (dC (.str (Str.ofString "cid"))), (d1 negD (dC (.int 1)))]), (dTup [(d2 ixD (dVar 7) (dC (.int 0))), (dC (.str (Str.ofString "cid"))), (dC (.bool true))]), (dTup [(d2 ixD (dVar 7) (dC (.int 0))), (dC (.str (Str.ofString "cid"))), (dC (.str (Str.ofString "1")))])]))))
  (wBind (wPure (dAsg 9 (d2 addD (dVar 9) (dLst [(dTup [(d2 ixD (dVar 7) (dC (.int 0))), (dC .none), (dC (.int 1))]), (dTup [(dN lisD (dArgs [(d2 ixD (dVar 7) (dC (.int 0)))])), (dC (.str (Str.ofString "cid"))), (dC (.int 1))]), (d2 addD (dVar 7) (dTup [(dC (.int 1))]))]))))
  (wBind (wCat3 (dLst [(dN m_is_parting_payment (dArgs [(dVar 1), (dVar 2), (dVar 7)])), (dLc (dItems (dVar 9)) (tgN 14) dYes (dN m_is_parting_payment (dArgs [(dVar 1), (dVar 2), (dVar 14)])) [14])]))
  (wBind (wApp3 (dN m_is_parting_payment (dArgs [(dVar 2), (dVar 2), (dVar 7)])))
  (wBind (wCat4 (dLst [(dC (.bool true)), (d2 mulD (dLst [(dC (.bool false))]) (dN lenD (dArgs [(dVar 9)]))), (dC (.bool false))]))
  (wBind (wPure (dAsg 10 (dN m_law_lists (dArgs [(dVar 1)]))))
  (wBind (wCat3 (dLst [(dN m_unlike_payers (dArgs [(dVar 10), (dVar 2)])), (dN m_nearest_lists (dArgs [(dN m_law_lists (dArgs [(dVar 2)])), (dC (.str (Str.ofString "cid")))]))]))
  (wBind (wCat3 (dLst [(dN m_is_parting_payment (dArgs [(dVar 10), (dN m_law_lists (dArgs [(dVar 2)])), (dVar 7)]))]))
  (wBind (wCat3 (dLst [(dN m_law_judged (dArgs [(dVar 1), (dVar 2), (dN m_parting_payment (dArgs [(dVar 10), (dN m_law_lists (dArgs [(dVar 2)]))]))]))]))
  (wBind (wCat3 (dLst [(d2 eqD (dVar 10) (dN m_law_lists (dArgs [(dVar 1)])))]))
  (wBind (wCat4 (dLst [(dTup [(dC (.str (Str.ofString "cid")))]), (dTup [(dC (.int 1)), (dLst [(dTup []), (dTup [(dC (.str (Str.ofString "gas"))), (dC (.str (Str.ofString "rent")))]), (dTup [(dC (.str (Str.ofString "rent"))), (dC (.str (Str.ofString "gas")))])])]), (dC (.bool true)), (dC (.bool true)), (dC (.bool true))]))
  (wBind (wPure (dAsg 11 (dTup [(dVar 0), (dTup [(dTup [(dC (.str (Str.ofString "ann"))), (dTup [(dC (.str (Str.ofString "rent")))])]), (dTup [(dC (.str (Str.ofString "bob"))), (dTup [(dC (.str (Str.ofString "gas")))])])])])))
  (wBind (wApp3 (dN m_law_judged (dArgs [(dVar 1), (dVar 2), (dN m_parting_payment (dArgs [(dVar 1), (dVar 2)]))])))
  (wBind (wApp3 (dLc (dRange (dC (.int 3))) (tgN 12) dYes (dN m_law_heard (dArgs [(dVar 1), (dVar 11), (dVar 12)])) [12]))
  (wBind (wCat3 (dLst [(dN m_law_heard (dArgs [(dVar 1), (dTup [(dSl (dVar 0) (dPart (dC (.int 1))) dNo), (dTup [(dTup [(dC (.str (Str.ofString "ann"))), (dTup [])]), (dTup [(dC (.str (Str.ofString "bob"))), (dTup [])]), (dTup [(dC (.str (Str.ofString "cid"))), (dTup [])])])]), (dC (.int 0))]))]))
  (wBind (wCat3 (dLst [(dN m_law_heard (dArgs [(dVar 11), (dVar 11), (dC (.int 1))]))]))
  (wRet (dN m_law_same (dArgs [(dVar 3), (d2 addD (dVar 4) (dLst [(dC (.bool true)), (d2 mulD (dLst [(dC (.bool true))]) (dC (.int 3))), (dC (.bool true)), (dC (.bool false))]))])))))))))))))))))))))))))))))))))))))))
def m_hand : List PyData → Option PyData := fun _ => w_hand (List.replicate 15 none, none, none)
theorem hand_ok (T : Bl mg) (F : DefAt K mg "_law_by_hand_right" s_hand) (D_nearest_lists : DefOk P w K mg base CX0 14 "nearest_lists" ["book", "payer"] (spD K 2 m_nearest_lists)) (D_unlike_payers : DefOk P w K mg base CX0 11 "unlike_payers" ["one", "other"] (spD K 2 m_unlike_payers)) (D_fewest_steps : DefOk P w K mg base CX0 1 "fewest_steps" ["one", "other"] (spD K 2 m_fewest_steps)) (D_parting_payment : DefOk P w K mg base CX0 12 "parting_payment" ["one", "other"] (spD K 2 m_parting_payment)) (D_is_parting_payment : DefOk P w K mg base CX0 12 "is_parting_payment" ["one", "other", "thing"] (spD K 3 m_is_parting_payment)) (D_law_lists : DefOk P w K mg base CX0 8 "_law_lists" ["_law_matter"] (spD K 1 m_law_lists)) (D_law_judged : DefOk P w K mg base CX0 2 "_law_judged" ["_law_one_so", "_law_two_so", "_law_thing_so"] (spD K 3 m_law_judged)) (D_law_heard : DefOk P w K mg base CX0 13 "_law_heard" ["_law_one_so", "_law_two_so", "_law_door"] (spD K 3 m_law_heard)) (D_law_same : DefOk P w K mg base CX0 8 "_law_same" ["_law_got", "_law_goal"] (spD K 2 m_law_same)) :
    DefOk P w K mg base CX0 15 "_law_by_hand_right" [] (spD K 0 m_hand) := by
  refine F.okH (k := 14) (N := N_hand) (ps := []) sc_hand (fun _ _ _ _ _ _ us hl => match us, hl with | [], _ => rfl) (fun _ _ _ _ _ _ us hl => match us, hl with | [], _ => rfl) (fun vs H Q E h => h.1) fun f cdv A outer s H vs Q E hr h => ?_
  obtain ⟨hl, G, ds, d, vw, r, e, q⟩ := h
  have hv : vs = [] := List.length_eq_zero_iff.mp hl
  subst hv
  refine ⟨liWR K G H w_hand,
    (pw_cons (pw_pure (pds_set (i := 0) sc_hand.nd rfl (by first | exact Or.inl rfl | exact Or.inr rfl) (pd_tup (pda_cons pd_str (pda_cons pd_str (pda_cons pd_str pda_nil))))))
    (pw_cons (pw_pure (pds_set (i := 1) sc_hand.nd rfl (by first | exact Or.inl rfl | exact Or.inr rfl) (pd_tup (pda_cons (pd 0) (pda_cons (pd_tup (pda_cons (pd_tup (pda_cons pd_str (pda_cons (pd_tup (pda_cons pd_str (pda_cons pd_str pda_nil))) pda_nil))) (pda_cons (pd_tup (pda_cons pd_str (pda_cons (pd_tup (pda_cons pd_str (pda_cons pd_str pda_nil))) pda_nil))) (pda_cons (pd_tup (pda_cons pd_str (pda_cons (pd_tup (pda_cons pd_str (pda_cons pd_str pda_nil))) pda_nil))) pda_nil)))) pda_nil)))))
    (pw_cons (pw_pure (pds_set (i := 2) sc_hand.nd rfl (by first | exact Or.inl rfl | exact Or.inr rfl) (pd_tup (pda_cons (pd 0) (pda_cons (pd_tup (pda_cons (pd_tup (pda_cons pd_str (pda_cons (pd_tup (pda_cons pd_str (pda_cons pd_str pda_nil))) pda_nil))) (pda_cons (pd_tup (pda_cons pd_str (pda_cons (pd_tup (pda_cons pd_str (pda_cons pd_str pda_nil))) pda_nil))) (pda_cons (pd_tup (pda_cons pd_str (pda_cons (pd_tup (pda_cons pd_str pda_nil)) pda_nil))) pda_nil)))) pda_nil)))))
    (pw_cons (pw_new3 sc_hand.nd rfl (by first | exact Or.inl rfl | exact Or.inr rfl) (pda_cons (pd_def D_nearest_lists (hr.mono (by decide)) rfl pass0 (pda_cons (pd 1) (pda_cons pd_str pda_nil))) (pda_cons (pd_def D_nearest_lists (hr.mono (by decide)) rfl pass0 (pda_cons (pd 1) (pda_cons pd_str pda_nil))) (pda_cons (pd_def D_nearest_lists (hr.mono (by decide)) rfl pass0 (pda_cons (pd 2) (pda_cons pd_str pda_nil))) pda_nil))))
    (pw_cons (pw_cat3 sc_hand.nd rfl (by first | exact Or.inl rfl | exact Or.inr rfl) (pv 3) (pd_lst (pda_cons (pd_def D_unlike_payers (hr.mono (by decide)) rfl pass0 (pda_cons (pd 1) (pda_cons (pd 2) pda_nil))) (pda_cons (pd_def D_unlike_payers (hr.mono (by decide)) rfl pass0 (pda_cons (pd 2) (pda_cons (pd 2) pda_nil))) pda_nil))))
    (pw_cons (pw_new4 sc_hand.nd rfl (by first | exact Or.inl rfl | exact Or.inr rfl) (pda_cons (pd_tup (pda_cons pd_int (pda_cons (pd_lst (pda_cons (pd_tup (pda_cons pd_str pda_nil)) pda_nil)) pda_nil))) (pda_cons pd_non (pda_cons (pd_tup (pda_cons pd_int (pda_cons (pd_lst (pda_cons (pd_tup pda_nil) (pda_cons (pd_tup (pda_cons pd_str (pda_cons pd_str pda_nil))) (pda_cons (pd_tup (pda_cons pd_str (pda_cons pd_str pda_nil))) pda_nil)))) pda_nil))) (pda_cons (pd_tup (pda_cons pd_str pda_nil)) (pda_cons (pd_tup pda_nil) pda_nil))))))
    (pw_paper (n := 15) (by decide) rfl (ps_set (i := 5) sc_hand.nd rfl (by first | exact Or.inl rfl | exact Or.inr rfl) (pd_def D_nearest_lists (hr.mono (by decide)) rfl pass0 (pda_cons (pd 1) (pda_cons pd_str pda_nil)))) (ps_appE (pd_ix ix_D (pd 5) pd_int) (pd_tup pda_nil))
    (pw_cons (pw_app3 (ps_append (i := 3) rfl (pd_def D_nearest_lists (hr.mono (by decide)) rfl pass0 (pda_cons (pd 1) (pda_cons pd_str pda_nil)))))
    (pw_cons (pw_app4 (ps_append (i := 4) rfl (pd_tup (pda_cons pd_int (pda_cons (pd_lst (pda_cons (pd_tup (pda_cons pd_str pda_nil)) pda_nil)) pda_nil)))))
    (pw_cons (pw_pure (pds_set (i := 6) sc_hand.nd rfl (by first | exact Or.inl rfl | exact Or.inr rfl) (pd_lst (pda_cons (pd_tup (pda_cons pd_str (pda_cons pd_str pda_nil))) (pda_cons (pd_tup (pda_cons pd_str (pda_cons pd_str pda_nil))) (pda_cons (pd_tup (pda_cons pd_str (pda_cons pd_str pda_nil))) (pda_cons (pd_tup (pda_cons pd_str (pda_cons pd_str pda_nil))) pda_nil)))))))
    (pw_cons (pw_pure (pds_set (i := 6) sc_hand.nd rfl (by first | exact Or.inl rfl | exact Or.inr rfl) (pd_op op_addD (pd 6) (pd_lst (pda_cons (pd_tup (pda_cons pd_str (pda_cons pd_str pda_nil))) (pda_cons (pd_tup (pda_cons pd_str (pda_cons pd_str pda_nil))) (pda_cons (pd_tup (pda_cons pd_str (pda_cons pd_str pda_nil))) (pda_cons (pd_tup (pda_cons pd_str (pda_cons pd_str pda_nil))) pda_nil))))))))
    (pw_cons (pw_app3 (ps_append (i := 3) rfl (pd_lc (own := [("_law_near", 13), ("_law_far", 11)]) rfl sc_hand.nd (pdi_seq (pd 6)) (blkOk_by (own := [("_law_near", 13), ("_law_far", 11)]) (N := ["_law_bills_so", "_law_host", "_law_tidy", "_law_got", "_law_goal", "_law_paper", "_law_pairs_so", "_law_fine", "_law_zero_so", "_law_odd", "_law_soft", "_law_far", "_law_door", "_law_near", "_law_own"]) (sc := (defScope s_hand)) (by decide +kernel)) (by decide) (fun _ _ _ _ _ => (pdg_tup rfl (pdgs_cons (pdg_name (i := 13) sc_hand.nd rfl (by first | exact Or.inl rfl | exact Or.inr rfl)) (pdgs_cons (pdg_name (i := 11) sc_hand.nd rfl (by first | exact Or.inl rfl | exact Or.inr rfl)) pdgs_nil)))) (fun _ _ _ _ _ => pdts_nil) (fun _ _ _ _ _ => (pd_defK D_fewest_steps (hr.mono (by decide)) rfl pass0 (pdk_cons (pd_callTy (call_tupS rfl) rfl T.tuple boot_tuple (pda_cons (pd 13) pda_nil)) (pdk_cons (pd_callTy (call_lisS rfl) rfl T.list boot_list (pda_cons (pd 11) pda_nil)) pdk_nil)))))))
    (pw_cons (pw_app4 (ps_append (i := 4) rfl (pd_lst (pda_cons pd_int (pda_cons pd_int (pda_cons pd_int (pda_cons pd_int (pda_cons pd_int (pda_cons pd_int (pda_cons pd_int (pda_cons pd_int pda_nil)))))))))))
    (pw_cons (pw_cat3 sc_hand.nd rfl (by first | exact Or.inl rfl | exact Or.inr rfl) (pv 3) (pd_lst (pda_cons (pd_def D_nearest_lists (hr.mono (by decide)) rfl pass0 (pda_cons (pd_tup (pda_cons (pd 0) (pda_cons (pd_tup (pda_cons (pd_tup (pda_cons pd_str (pda_cons (pd_tup (pda_cons pd_str pda_nil)) pda_nil))) pda_nil)) pda_nil))) (pda_cons pd_str pda_nil))) pda_nil)))
    (pw_cons (pw_cat3 sc_hand.nd rfl (by first | exact Or.inl rfl | exact Or.inr rfl) (pv 3) (pd_lst (pda_cons (pd_def D_nearest_lists (hr.mono (by decide)) rfl pass0 (pda_cons (pd_tup (pda_cons (pd_tup pda_nil) (pda_cons (pd_tup (pda_cons (pd_tup (pda_cons pd_str (pda_cons (pd_tup pda_nil) pda_nil))) pda_nil)) pda_nil))) (pda_cons pd_str pda_nil))) (pda_cons (pd_def D_parting_payment (hr.mono (by decide)) rfl pass0 (pda_cons (pd 2) (pda_cons (pd 2) pda_nil))) pda_nil))))
    (pw_cons (pw_cat4 sc_hand.nd rfl (by first | exact Or.inl rfl | exact Or.inr rfl) (pv 4) (pd_lst (pda_cons (pd_tup (pda_cons pd_int (pda_cons (pd_lst (pda_cons (pd_tup (pda_cons pd_str pda_nil)) pda_nil)) pda_nil))) (pda_cons (pd_tup (pda_cons pd_int (pda_cons (pd_lst (pda_cons (pd_tup pda_nil) pda_nil)) pda_nil))) (pda_cons pd_non pda_nil)))))
    (pw_cons (pw_pure (pds_set (i := 7) sc_hand.nd rfl (by first | exact Or.inl rfl | exact Or.inr rfl) (pd_tup (pda_cons (pd_tup (pda_cons (pd_tup (pda_cons pd_str (pda_cons pd_int pda_nil))) (pda_cons (pd_tup (pda_cons pd_str (pda_cons pd_int pda_nil))) (pda_cons (pd_tup (pda_cons pd_str (pda_cons pd_int pda_nil))) pda_nil)))) (pda_cons pd_str (pda_cons pd_int pda_nil))))))
    (pw_cons (pw_pure (pds_set (i := 8) sc_hand.nd rfl (by first | exact Or.inl rfl | exact Or.inr rfl) (pd_tup (pda_cons (pd_tup (pda_cons (pd_tup (pda_cons pd_str (pda_cons pd_int pda_nil))) (pda_cons (pd_tup (pda_cons pd_str (pda_cons pd_int pda_nil))) (pda_cons (pd_tup (pda_cons pd_str (pda_cons pd_int pda_nil))) pda_nil)))) (pda_cons pd_str (pda_cons pd_int pda_nil))))))
    (pw_cons (pw_pure (pds_set (i := 9) sc_hand.nd rfl (by first | exact Or.inl rfl | exact Or.inr rfl) (pd_lst (pda_cons (pd 8) (pda_cons (pd_tup (pda_cons (pd_ix ix_D (pd 7) pd_int) (pda_cons pd_str (pda_cons pd_int pda_nil)))) (pda_cons (pd_tup (pda_cons (pd_ix ix_D (pd 7) pd_int) (pda_cons pd_str (pda_cons pd_int pda_nil)))) (pda_cons (pd_tup (pda_cons (pd_slice (pd_ix ix_D (pd 7) pd_int) pdo_none (pdo_some pd_int)) (pda_cons pd_str (pda_cons pd_int pda_nil)))) pda_nil)))))))
    (pw_cons (pw_pure (pds_set (i := 9) sc_hand.nd rfl (by first | exact Or.inl rfl | exact Or.inr rfl) (pd_op op_addD (pd 9) (pd_lst (pda_cons (pd_tup (pda_cons (pd_ix ix_D (pd 7) pd_int) (pda_cons pd_str (pda_cons pd_int pda_nil)))) (pda_cons (pd_tup (pda_cons (pd_ix ix_D (pd 7) pd_int) (pda_cons pd_str pda_nil))) (pda_cons pd_non (pda_cons pd_int (pda_cons pd_str (pda_cons (pd_callTy call_lisD rfl T.list boot_list (pda_cons (pd 7) pda_nil)) pda_nil))))))))))
    (pw_cons (pw_pure (pds_set (i := 9) sc_hand.nd rfl (by first | exact Or.inl rfl | exact Or.inr rfl) (pd_op op_addD (pd 9) (pd_lst (pda_cons (pd_tup (pda_cons (pd_ix ix_D (pd 7) pd_int) (pda_cons pd_str (pda_cons (pd_un un_negD pd_int) pda_nil)))) (pda_cons (pd_tup (pda_cons (pd_ix ix_D (pd 7) pd_int) (pda_cons pd_str (pda_cons pd_bl pda_nil)))) (pda_cons (pd_tup (pda_cons (pd_ix ix_D (pd 7) pd_int) (pda_cons pd_str (pda_cons pd_str pda_nil)))) pda_nil)))))))
    (pw_cons (pw_pure (pds_set (i := 9) sc_hand.nd rfl (by first | exact Or.inl rfl | exact Or.inr rfl) (pd_op op_addD (pd 9) (pd_lst (pda_cons (pd_tup (pda_cons (pd_ix ix_D (pd 7) pd_int) (pda_cons pd_non (pda_cons pd_int pda_nil)))) (pda_cons (pd_tup (pda_cons (pd_callTy call_lisD rfl T.list boot_list (pda_cons (pd_ix ix_D (pd 7) pd_int) pda_nil)) (pda_cons pd_str (pda_cons pd_int pda_nil)))) (pda_cons (pd_op op_addD (pd 7) (pd_tup (pda_cons pd_int pda_nil))) pda_nil)))))))
    (pw_cons (pw_cat3 sc_hand.nd rfl (by first | exact Or.inl rfl | exact Or.inr rfl) (pv 3) (pd_lst (pda_cons (pd_def D_is_parting_payment (hr.mono (by decide)) rfl pass0 (pda_cons (pd 1) (pda_cons (pd 2) (pda_cons (pd 7) pda_nil)))) (pda_cons (pd_lc (own := [("_law_own", 14)]) rfl sc_hand.nd (pdi_seq (pd 9)) (blkOk_by (own := [("_law_own", 14)]) (N := ["_law_bills_so", "_law_host", "_law_tidy", "_law_got", "_law_goal", "_law_paper", "_law_pairs_so", "_law_fine", "_law_zero_so", "_law_odd", "_law_soft", "_law_far", "_law_door", "_law_near", "_law_own"]) (sc := (defScope s_hand)) (by decide +kernel)) (by decide) (fun _ _ _ _ _ => (pdg_name (i := 14) sc_hand.nd rfl (by first | exact Or.inl rfl | exact Or.inr rfl))) (fun _ _ _ _ _ => pdts_nil) (fun _ _ _ _ _ => (pd_def D_is_parting_payment (hr.mono (by decide)) rfl pass0 (pda_cons (pd 1) (pda_cons (pd 2) (pda_cons (pd 14) pda_nil)))))) pda_nil))))
    (pw_cons (pw_app3 (ps_append (i := 3) rfl (pd_def D_is_parting_payment (hr.mono (by decide)) rfl pass0 (pda_cons (pd 2) (pda_cons (pd 2) (pda_cons (pd 7) pda_nil))))))
    (pw_cons (pw_cat4 sc_hand.nd rfl (by first | exact Or.inl rfl | exact Or.inr rfl) (pv 4) (pd_lst (pda_cons pd_bl (pda_cons (pd_op op_mulD (pd_lst (pda_cons pd_bl pda_nil)) (pd_callB call_lenDD rfl T.len boot_len (pda_cons (pd 9) pda_nil))) (pda_cons pd_bl pda_nil)))))
    (pw_cons (pw_pure (pds_set (i := 10) sc_hand.nd rfl (by first | exact Or.inl rfl | exact Or.inr rfl) (pd_def D_law_lists (hr.mono (by decide)) rfl pass0 (pda_cons (pd 1) pda_nil))))
    (pw_cons (pw_cat3 sc_hand.nd rfl (by first | exact Or.inl rfl | exact Or.inr rfl) (pv 3) (pd_lst (pda_cons (pd_def D_unlike_payers (hr.mono (by decide)) rfl pass0 (pda_cons (pd 10) (pda_cons (pd 2) pda_nil))) (pda_cons (pd_def D_nearest_lists (hr.mono (by decide)) rfl pass0 (pda_cons (pd_def D_law_lists (hr.mono (by decide)) rfl pass0 (pda_cons (pd 2) pda_nil)) (pda_cons pd_str pda_nil))) pda_nil))))
    (pw_cons (pw_cat3 sc_hand.nd rfl (by first | exact Or.inl rfl | exact Or.inr rfl) (pv 3) (pd_lst (pda_cons (pd_def D_is_parting_payment (hr.mono (by decide)) rfl pass0 (pda_cons (pd 10) (pda_cons (pd_def D_law_lists (hr.mono (by decide)) rfl pass0 (pda_cons (pd 2) pda_nil)) (pda_cons (pd 7) pda_nil)))) pda_nil)))
    (pw_cons (pw_cat3 sc_hand.nd rfl (by first | exact Or.inl rfl | exact Or.inr rfl) (pv 3) (pd_lst (pda_cons (pd_def D_law_judged (hr.mono (by decide)) rfl pass0 (pda_cons (pd 1) (pda_cons (pd 2) (pda_cons (pd_def D_parting_payment (hr.mono (by decide)) rfl pass0 (pda_cons (pd 10) (pda_cons (pd_def D_law_lists (hr.mono (by decide)) rfl pass0 (pda_cons (pd 2) pda_nil)) pda_nil))) pda_nil)))) pda_nil)))
    (pw_cons (pw_cat3 sc_hand.nd rfl (by first | exact Or.inl rfl | exact Or.inr rfl) (pv 3) (pd_lst (pda_cons (pd_cmp (op_eqDD hr.units) (pd 10) (pd_def D_law_lists (hr.mono (by decide)) rfl pass0 (pda_cons (pd 1) pda_nil))) pda_nil)))
    (pw_cons (pw_cat4 sc_hand.nd rfl (by first | exact Or.inl rfl | exact Or.inr rfl) (pv 4) (pd_lst (pda_cons (pd_tup (pda_cons pd_str pda_nil)) (pda_cons (pd_tup (pda_cons pd_int (pda_cons (pd_lst (pda_cons (pd_tup pda_nil) (pda_cons (pd_tup (pda_cons pd_str (pda_cons pd_str pda_nil))) (pda_cons (pd_tup (pda_cons pd_str (pda_cons pd_str pda_nil))) pda_nil)))) pda_nil))) (pda_cons pd_bl (pda_cons pd_bl (pda_cons pd_bl pda_nil)))))))
    (pw_cons (pw_pure (pds_set (i := 11) sc_hand.nd rfl (by first | exact Or.inl rfl | exact Or.inr rfl) (pd_tup (pda_cons (pd 0) (pda_cons (pd_tup (pda_cons (pd_tup (pda_cons pd_str (pda_cons (pd_tup (pda_cons pd_str pda_nil)) pda_nil))) (pda_cons (pd_tup (pda_cons pd_str (pda_cons (pd_tup (pda_cons pd_str pda_nil)) pda_nil))) pda_nil))) pda_nil)))))
    (pw_cons (pw_app3 (ps_append (i := 3) rfl (pd_def D_law_judged (hr.mono (by decide)) rfl pass0 (pda_cons (pd 1) (pda_cons (pd 2) (pda_cons (pd_def D_parting_payment (hr.mono (by decide)) rfl pass0 (pda_cons (pd 1) (pda_cons (pd 2) pda_nil))) pda_nil))))))
    (pw_cons (pw_app3 (ps_append (i := 3) rfl (pd_lc (own := [("_law_door", 12)]) rfl sc_hand.nd (pdi_range rfl T.range pd_int) (blkOk_by (own := [("_law_door", 12)]) (N := ["_law_bills_so", "_law_host", "_law_tidy", "_law_got", "_law_goal", "_law_paper", "_law_pairs_so", "_law_fine", "_law_zero_so", "_law_odd", "_law_soft", "_law_far", "_law_door", "_law_near", "_law_own"]) (sc := (defScope s_hand)) (by decide +kernel)) (by decide) (fun _ _ _ _ _ => (pdg_name (i := 12) sc_hand.nd rfl (by first | exact Or.inl rfl | exact Or.inr rfl))) (fun _ _ _ _ _ => pdts_nil) (fun _ _ _ _ _ => (pd_def D_law_heard (hr.mono (by decide)) rfl pass0 (pda_cons (pd 1) (pda_cons (pd 11) (pda_cons (pd 12) pda_nil))))))))
    (pw_cons (pw_cat3 sc_hand.nd rfl (by first | exact Or.inl rfl | exact Or.inr rfl) (pv 3) (pd_lst (pda_cons (pd_def D_law_heard (hr.mono (by decide)) rfl pass0 (pda_cons (pd 1) (pda_cons (pd_tup (pda_cons (pd_slice (pd 0) (pdo_some pd_int) pdo_none) (pda_cons (pd_tup (pda_cons (pd_tup (pda_cons pd_str (pda_cons (pd_tup pda_nil) pda_nil))) (pda_cons (pd_tup (pda_cons pd_str (pda_cons (pd_tup pda_nil) pda_nil))) (pda_cons (pd_tup (pda_cons pd_str (pda_cons (pd_tup pda_nil) pda_nil))) pda_nil)))) pda_nil))) (pda_cons pd_int pda_nil)))) pda_nil)))
    (pw_cons (pw_cat3 sc_hand.nd rfl (by first | exact Or.inl rfl | exact Or.inr rfl) (pv 3) (pd_lst (pda_cons (pd_def D_law_heard (hr.mono (by decide)) rfl pass0 (pda_cons (pd 11) (pda_cons (pd 11) (pda_cons pd_int pda_nil)))) pda_nil)))
    (pw_ret (pd_def D_law_same (hr.mono (by decide)) rfl pass0 (pda_cons (pd 3) (pda_cons (pd_op op_addD (pd 4) (pd_lst (pda_cons pd_bl (pda_cons (pd_op op_mulD (pd_lst (pda_cons pd_bl pda_nil)) pd_int) (pda_cons pd_bl (pda_cons pd_bl pda_nil)))))) pda_nil)))))))))))))))))))))))))))))))))))))))), ?_⟩
  exact ⟨G, _, none, none, d, ⟨NxtM.refl vw (fun b hb => by cases hb), Sl.none_ (n := 15) rfl, 0, 0, (fun z _ => Bool.noConfusion z), trivial, trivial⟩, e, q⟩

end
end Od
end
section
set_option maxHeartbeats 8000000
namespace Od
open PySem PySem.Spec PyProof.Rows L2
def isTrueD : Option PyData → Bool
  | some (.bool b) => b
  | _ => false
theorem isTrueD_eq : ∀ {o : Option PyData}, isTrueD o = true → o = some (.bool true)
  | some (.bool b), h => by cases b <;> first | rfl | cases h
theorem hand_true : m_hand [] = some (.bool true) := isTrueD_eq (by decide +kernel)
end Od
end
section
set_option maxHeartbeats 8000000
/-! OdUrn: statements beside an urn that is drawn from. -/
namespace Od
open PySem PySem.Spec PyProof.Rows L2
structure Us (K : PySem.W.Frag) (u : Addr) (G0 H0 : Hp) (b cap : Int) (G : Hp) (σ : L2.St) (H : Hp) (ρ : DEnv) : Prop where
  n : NxtM [u] G0 H0 G H
  s : Sl K G σ ρ
  s0 : σ[0]? = some (some (.ref u))
  hu : ∃ a c, H u = some (.lst [.int a, .int b, .int c]) ∧ 0 ≤ c ∧ c ≤ cap
section
variable {K : PySem.W.Frag} {u : Addr} {G0 H0 G H G1 H1 : Hp} {b cap : Int} {σ : L2.St} {ρ ρ' : DEnv} {Q : VK} {E : XK}
theorem Us.gu (U : Us K u G0 H0 b cap G σ H ρ) : G u = none := U.n.m u (List.mem_singleton.mpr rfl)
theorem Us.at_u (U : Us K u G0 H0 b cap G σ H ρ) : ∀ x ∈ [u], ∃ o, H x = some o := let ⟨_, _, h, _⟩ := U.hu; one_mem h
theorem Us.step (U : Us K u G0 H0 b cap G σ H ρ) (n : Nxt G H G1 H1) : Us K u G0 H0 b cap G1 σ H1 ρ :=
  ⟨U.n.step n U.at_u, U.s.mono n.g, U.s0, let ⟨a, c, h, c0, c1⟩ := U.hu; ⟨a, c, n.h _ _ h, c0, c1⟩⟩
theorem Us.set {i : Nat} {v : V} {d : PyData} (U : Us K u G0 H0 b cap G σ H ρ) (hi : i ≠ 0) (r : Rp K G v d) : Us K u G0 H0 b cap G (σ.set i (some v)) H (ρ.set i (some d)) :=
  ⟨U.n, U.s.set r, get_set U.s0 hi.symm, U.hu⟩
theorem Us.forget {i : Nat} {v : V} (U : Us K u G0 H0 b cap G σ H ρ) (hi : i ≠ 0) : Us K u G0 H0 b cap G (σ.set i (some v)) H (ρ.set i none) :=
  ⟨U.n, U.s.forget, get_set U.s0 hi.symm, U.hu⟩
theorem Us.cap_le {cap' : Int} (U : Us K u G0 H0 b cap G σ H ρ) (h : cap ≤ cap') : Us K u G0 H0 b cap' G σ H ρ := ⟨U.n, U.s, U.s0, let ⟨a, c, h1, c0, c1⟩ := U.hu; ⟨a, c, h1, c0, by omega⟩⟩
theorem Us.none_ {m : Nat} (U : Us K u G0 H0 b cap G σ H ρ) (hm : ρ.length = m) : Us K u G0 H0 b cap G σ H (List.replicate m none) := ⟨U.n, Sl.none_ (U.s.len.trans hm), U.s0, U.hu⟩
theorem Us.pure {t : DS} {D : Ends} (U : Us K u G0 H0 b cap G σ H ρ) (e : t ρ = some (.nx ρ')) (k : ∀ σ' G' H', Us K u G0 H0 b cap G' σ' H' ρ' → Same G G' → D.nx σ' H') : liS K [0] t D σ H :=
  ⟨G, ρ, .nx ρ', U.n.v, U.s, e, fun σ' G' H' n s f => k σ' G' H' ⟨U.n.step n U.at_u, s, by rw [f 0 (by simp)]; exact U.s0, (U.step n).hu⟩ n.g⟩
theorem Us.takeE (U : Us K u G0 H0 b cap G σ H ρ) (hc : cap < 100000000) : ∃ a c, Same G H ∧ G u = none ∧ H u = some (.lst [.int a, .int b, .int c]) ∧ 0 ≤ c ∧ c < 900000000000 ∧
    ∀ (G' : Hp) (a' c' : Int) (H' : Hp) (j : Int), 0 ≤ c' → c' ≤ c + j → NxtM [u] G H G' H' → H' u = some (.lst [.int a', .int b, .int c']) → Us K u G0 H0 b (cap + j) G' σ H' ρ := by
  obtain ⟨a, c, h, c0, c1⟩ := U.hu
  exact ⟨a, c, U.n.v, U.gu, h, c0, by omega, fun G' a' c' H' j k0 k1 n h' => ⟨U.n.trans n, U.s.mono n.g, U.s0, a', c', h', k0, by omega⟩⟩
/-- a new object that is not told yet -/
theorem Us.lay {p : Addr} {o : HO} (U : Us K u G0 H0 b cap G σ H ρ) (hp : H p = none) : Us K u G0 H0 b cap G σ (upd H p o) ρ := by
  obtain ⟨a, c, h, c0, c1⟩ := U.hu
  exact ⟨U.n.lay hp, U.s, U.s0, a, c, by rw [upd_ne (ne_of_none h hp)]; exact h, c0, c1⟩
theorem NxtM.fresh {M : List Addr} {p : Addr} (n : NxtM M G0 H0 G H) (hM : p ∉ M) (hp : H p = none) : H0 p = none := by
  cases z : H0 p with
  | none => rfl
  | some o => rw [n.h p o hM z] at hp; cases hp
theorem Us.fresh {p : Addr} (U : Us K u G0 H0 b cap G σ H ρ) (hp : H p = none) : H0 p = none ∧ p ≠ u ∧ G p = none := by
  obtain ⟨a, c, h, c0, c1⟩ := U.hu
  have hpu : p ≠ u := fun z => by rw [z, h] at hp; cases hp
  exact ⟨U.n.fresh (fun z => hpu (List.mem_singleton.mp z)) hp, hpu, U.n.v.free hp⟩
/-- one of ours is written -/
theorem Us.write {p : Addr} {o : HO} (U : Us K u G0 H0 b cap G σ H ρ) (h0 : H0 p = none) (hpu : p ≠ u) (gp : G p = none) : Us K u G0 H0 b cap G σ (upd H p o) ρ := by
  obtain ⟨a, c, h, c0, c1⟩ := U.hu
  exact ⟨U.n.write (.inr h0) gp, U.s, U.s0, a, c, by rw [upd_ne (Ne.symm hpu)]; exact h, c0, c1⟩
/-- one of ours is told -/
theorem Us.tell {p : Addr} {o : HO} (U : Us K u G0 H0 b cap G σ H ρ) (h0 : H0 p = none) (hpu : p ≠ u) (gp : G p = none) (hp : H p = some o) : Us K u G0 H0 b cap (upd G p o) σ H ρ :=
  ⟨U.n.publish h0 (fun z => hpu (List.mem_singleton.mp z)) gp hp, U.s.mono (same_upd gp), U.s0, U.hu⟩
theorem NxtM.keep {p : Addr} {o : HO} (n : NxtM [u] G H G1 H1) (hpu : p ≠ u) (gp : G p = none) (hp : H p = some o) : G1 p = none ∧ H1 p = some o := by
  refine ⟨?_, n.h _ _ (fun z => hpu (List.mem_singleton.mp z)) hp⟩
  cases z : G1 p with
  | none => rfl
  | some q =>
    rcases n.new p q z with y | y
    · rw [gp] at y; cases y
    · rw [hp] at y; cases y
/-- a call that sees the urn; its answer holds no lists -/
theorem Us.seen {v : V} {d : PyData} {o : HO} (U : Us K u G0 H0 b cap G σ H ρ) (hu : H u = some o) (n : Nxt (upd G u o) H G1 H1) (rv : Rp K G1 v d) (ht : onlyT 9 d = true) (hno : ∃ xs, o = .lst xs) : ∃ G2, NxtM [u] G H G2 H1 ∧ Us K u G0 H0 b cap G2 σ H1 ρ ∧ Rp K G2 v d := by
  obtain ⟨xs, rfl⟩ := hno
  let G2 : Hp := fun a => if a = u then none else G1 a
  have g2 : ∀ {a : Addr}, a ≠ u → G2 a = G1 a := fun h => if_neg h
  have gu2 : G2 u = none := if_pos rfl
  have ou : G1 u = some (.lst xs) := n.g _ _ upd_same
  have sub : Same G2 G1 := fun a w e => by
    by_cases h : a = u
    · rw [h, gu2] at e; cases e
    · rw [g2 h] at e; exact e
  have nm : NxtM [u] G H G2 H1 := ⟨fun a w _ e => n.h a w e, fun a w e => by
      have h : a ≠ u := fun z => by rw [z, U.gu] at e; cases e
      rw [g2 h]
      exact n.g _ _ (by rw [upd_ne h]; exact e), sub.trans n.v, fun a h => by rw [List.mem_singleton.mp h]; exact gu2, fun a w e => by
      have h : a ≠ u := fun z => by rw [z, gu2] at e; cases e
      rw [g2 h] at e
      rcases n.new a w e with y | y
      · rw [upd_ne h] at y
        exact .inl y
      · exact .inr y⟩
  refine ⟨G2, nm, ⟨U.n.trans nm, U.s.mono nm.g, U.s0, let ⟨a, c, h, c0, c1⟩ := U.hu; ⟨a, c, n.h _ _ h, c0, c1⟩⟩, (only_rp ht rv).mono fun a w e => ?_⟩
  have h : a ≠ u := fun z => by
    rw [z] at e
    unfold tupR at e
    rw [ou] at e
    cases e
  rw [g2 h]
  exact tupR_same _ _ e
end
end Od
end
section
set_option maxHeartbeats 8000000
/-! OdRight: the walk of _law_right. -/
namespace Od
open PySem PySem.Spec PyProof.Rows L2
def t_right5 : DS := (dPar 11 12 (dTup [(dVar 8), (dN m_law_pairs (dArgs [(dVar 3)]))]) (d2 neD (d2 dgetD (dVar 3) (dVar 2)) (d2 dgetD (dVar 9) (dVar 2))))
def t_right6 : DS := (dAsg 4 (dLst [(dN m_nearest_lists (dArgs [(dVar 10), (dVar 2)])), (dN m_unlike_payers (dArgs [(dVar 10), (dVar 11)])), (dN m_fewest_steps (dArgs [(d2 dgetD (dVar 9) (dVar 2)), (d2 dgetD (dVar 3) (dVar 2))]))]))
def t_right7 : DS := (dAsg 5 (dLst [(dN m_law_nearest (dArgs [(dVar 9), (dVar 8), (dVar 2)])), (dIf (dB (dVar 12)) (dTup [(dVar 2)]) (dTup []))]))
def t_right8 : DS := (dAsg 5 (d2 addD (dVar 5) (dLst [(dN m_law_steps (dArgs [(d2 dgetD (dVar 9) (dVar 2)), (d2 dgetD (dVar 3) (dVar 2))]))])))
def t_right9 : DS := (dAsg 6 (dN m_parting_payment (dArgs [(dVar 10), (dVar 11)])))
def t_right10 : DS := (dIfS (dOrT (dNotT (dB (dN m_law_same (dArgs [(dVar 4), (dVar 5)])))) (dB (d2 neD (d2 isD (dVar 6) (dC .none)) (dNot (dVar 12))))) (dRet (dC (.bool false))) dNext)
def t_right11 : DS := (dIfS (dAndT (dB (dVar 12)) (dNotT (dB (dN m_law_judged (dArgs [(dVar 10), (dVar 11), (dVar 6)]))))) (dRet (dC (.bool false))) dNext)
def t_right12 : DS := (dIfS (dAndT (dB (dVar 12)) (dNotT (dB (dN m_is_parting_payment (dArgs [(dVar 10), (dVar 11), (dVar 6)]))))) (dRet (dC (.bool false))) dNext)
def t_right14 : DS := (dIfS (dB (d2 neD (dN m_is_parting_payment (dArgs [(dVar 10), (dVar 11), (dVar 7)])) (dN m_law_judged (dArgs [(dVar 10), (dVar 11), (dVar 7)])))) (dRet (dC (.bool false))) dNext)
def t_hostE : DE := (dTup [(dVar 8), (dN m_law_pairs (dArgs [(dVar 9)]))])
def t_tagsE : DE := (dN sortD (dArgs [(dKeys 9 13)]))
def tagL : List Str := ["a", "b", "c", "d"]
def nameL : List Str := ["ann", "bob", "x"]
def bookE : List Str → List (List Str) → Es
  | n :: ns, r :: rs => (.str n, .tuple (r.map PyData.str)) :: bookE ns rs
  | _, _ => []
def strT (l : List Str) : PyData := .tuple (l.map PyData.str)
def pairQ : List Str → List Int → List PyData
  | x :: xs, q :: qs => .tuple [.str x, .int q] :: pairQ xs qs
  | _, _ => []
def RowOk (tags r : List Str) : Prop := r.Nodup ∧ ∀ x ∈ r, x ∈ tags
def rhoT (T : PyData) : DEnv := [none, none, none, none, none, none, none, none, some T, none, none, none, none, none]
def rhoB (T B : PyData) : DEnv := [none, none, none, none, none, none, none, none, some T, some B, none, none, none, none]
def rhoH (T B h g : PyData) : DEnv := [none, none, some g, none, none, none, none, none, some T, some B, some h, none, none, none]
def rhoL (T B h g l : PyData) : DEnv := [none, none, some g, some l, none, none, none, none, some T, some B, some h, none, none, none]
def midD : DS := dSeq t_right5 (dSeq t_right6 (dSeq t_right7 (dSeq t_right8 (dSeq t_right9 (dSeq t_right10 (dSeq t_right11 t_right12))))))
/-- the plain law of a turn -/
def TurnLaw : Prop := ∀ (n m : Nat) (rows : List (List Str)), n < 4 → m < 3 → rows.length = m + 1 → (∀ r ∈ rows, RowOk (tagL.take (n + 1)) r) →
  ∃ host, t_hostE (rhoB (strT (tagL.take (n + 1))) (.dict (bookE (nameL.take (m + 1)) rows))) = some host ∧ t_tagsE (rhoB (strT (tagL.take (n + 1))) (.dict (bookE (nameL.take (m + 1)) rows))) = some (.list ((nameL.take (m + 1)).map PyData.str)) ∧
    ∀ tg row, tg ∈ nameL.take (m + 1) → RowOk (tagL.take (n + 1)) row →
      ∃ ρ, midD (rhoL (strT (tagL.take (n + 1))) (.dict (bookE (nameL.take (m + 1)) rows)) host (.str tg) (.dict (putE (bookE (nameL.take (m + 1)) rows) tg (strT row)))) = some (.nx ρ) ∧ ρ.length = 14 ∧ ρ[8]? = some (some (strT (tagL.take (n + 1)))) ∧ ρ[2]? = some (some (.str tg)) ∧
        ∀ (qs : List Int) (amt : Int), qs.length = n + 1 → (∀ q ∈ qs, 0 ≤ q ∧ q < 3) → 0 ≤ amt → amt < 4 → ∃ ρ', t_right14 (ρ.set 7 (some (.tuple [.tuple (pairQ (tagL.take (n + 1)) qs), .str tg, .int amt]))) = some (.nx ρ') ∧ ρ'.length = 14
theorem seq_inv {t u : DS} {ρ ρ' : DEnv} (h : dSeq t u ρ = some (.nx ρ')) : ∃ ρ1, t ρ = some (.nx ρ1) ∧ u ρ1 = some (.nx ρ') := by
  unfold dSeq at h
  split at h
  · rename_i ρ1 h1
    exact ⟨ρ1, h1, h⟩
  · rename_i h1
    exact absurd h (h1 ρ')
theorem bills_of (x : PyData) {r : Int} (h0 : 0 ≤ r) (h1 : r < 4) : ∃ n, n < 4 ∧ m_law_bills [x, .int (1 + r)] = some (strT (tagL.take (n + 1))) := by
  have : r = 0 ∨ r = 1 ∨ r = 2 ∨ r = 3 := by omega
  rcases this with rfl | rfl | rfl | rfl
  · exact ⟨0, by decide, rfl⟩
  · exact ⟨1, by decide, rfl⟩
  · exact ⟨2, by decide, rfl⟩
  · exact ⟨3, by decide, rfl⟩
theorem names_of {r : Int} (h0 : 0 ≤ r) (h1 : r < 3) : ∃ m, m < 3 ∧ cutL (nameL.map PyData.str) none (some (1 + r)) = (nameL.take (m + 1)).map PyData.str := by
  have : r = 0 ∨ r = 1 ∨ r = 2 := by omega
  rcases this with rfl | rfl | rfl
  · exact ⟨0, by decide, rfl⟩
  · exact ⟨1, by decide, rfl⟩
  · exact ⟨2, by decide, rfl⟩
theorem tags_nd : ∀ n, n < 4 → (tagL.take (n + 1)).Nodup ∧ (∀ x ∈ tagL.take (n + 1), PyData.strOk x = true) ∧ (tagL.take (n + 1)).length = n + 1 ∧ onlyT 9 (strT (tagL.take (n + 1))) = true := by decide +kernel
theorem names_nd : ∀ m, m < 3 → (nameL.take (m + 1)).Nodup ∧ (nameL.take (m + 1)).length = m + 1 := by decide +kernel
theorem Us.weak {K : PySem.W.Frag} {u : Addr} {G0 H0 G H : Hp} {b cap : Int} {σ : L2.St} {ρ ρ' : DEnv} (U : Us K u G0 H0 b cap G σ H ρ) (hl : ρ'.length = ρ.length) (h : ∀ (i : Nat) (d : PyData), ρ'[i]? = some (some d) → ρ[i]? = some (some d)) : Us K u G0 H0 b cap G σ H ρ' := ⟨U.n, U.s.weak hl h, U.s0, U.hu⟩
abbrev s_law_right : Stmt := topS 63
abbrev N_right : List Str := ["_law_urn", "_law_turn", "_law_tag", "_law_late", "_law_got", "_law_goal", "_law_paper", "_law_given", "_law_tags_so", "_law_books", "_law_host", "_law_far", "_law_is_so", "_law_own"]
theorem sc_law_right : FnScope N_right ["_law_urn"] (defScope s_law_right) := ⟨rfl, rfl, rfl, by decide +kernel, rfl, by decide +kernel, by decide +kernel⟩
theorem pds_f0 {X : Cx} {st : Stmt} {t : DS} (h : PS X st (liS X.K [0] t)) : PS X st (liS X.K [0] t) := h
/-- x() -/
theorem pd_def0 {X : Cx} {CX : CXT} {k : Nat} {x : Str} {E : XK} {f : List PyData → Option PyData} {p pos : Pos} (D : DefOk X.prog X.w X.K X.mg X.base CX k x [] (spD X.K 0 f)) (hr : Room k X.A) (hg : Gl X x) (hx : Passes CX X E) (hdb : (x == ("__debug__" : Str)) = false := by decide) :
    PE X (.Call (.Name x p) [] [] pos) (liE X.K (dN f (dArgs []))) := by
  obtain ⟨_, _, F, m, kp, b, _⟩ := D.ex
  refine PE.imp (pe_call0 F hr hg m kp b .nil hx hdb) fun σ H Q ⟨G, ρ, d, vw, s, e, q⟩ => ?_
  exact ⟨rfl, G, [], d, vw, .nil, e, q⟩
def spRight (K : PySem.W.Frag) : Sp := fun vs H Q _ => ∃ (u : Addr) (a b : Int) (G : Hp), vs = [.ref u] ∧ Same G H ∧ G u = none ∧ H u = some (.lst [.int a, .int b, .int 0]) ∧ ∀ G' H', NxtM [u] G H G' H' → Q (.bl true) H'
structure BookInv (K : PySem.W.Frag) (u p : Addr) (G0 H0 : Hp) (b : Int) (cap : Int) (T : PyData) (ns : List Str) (tags : List Str) (i : Nat) (G : Hp) (σ : L2.St) (H : Hp) (kvs : List (Key × V)) (rows : List (List Str)) : Prop where
  U : Us K u G0 H0 b (cap + 1000 * i) G σ H (rhoT T)
  s9 : σ[9]? = some (some (.ref p))
  gp : G p = none
  hp : H p = some (.dK kvs)
  rk : RpKv K G kvs (bookE (ns.take i) rows)
  len : rows.length = i
  ok : ∀ r ∈ rows, RowOk tags r
theorem bookE_get : ∀ {ns : List Str} {rows : List (List Str)} {x : Str}, x ∉ ns → getE (bookE ns rows) x = none
  | [], rows, x, _ => by cases rows <;> rfl
  | n :: ns, [], x, _ => rfl
  | n :: ns, r :: rows, x, h => by
    show (if n = x then _ else getE (bookE ns rows) x) = none
    rw [if_neg (fun z => h (by rw [z]; exact List.mem_cons_self))]
    exact bookE_get fun z => h (List.mem_cons_of_mem _ z)
theorem bookE_app : ∀ {ns : List Str} {rows : List (List Str)} {x : Str} {r : List Str}, rows.length = ns.length → bookE (ns ++ [x]) (rows ++ [r]) = bookE ns rows ++ [(.str x, strT r)]
  | [], [], x, r, _ => rfl
  | n :: ns, s :: rows, x, r, h => congrArg ((PyData.str n, PyData.tuple (s.map PyData.str)) :: ·) (bookE_app (Nat.succ.inj h))
  | [], _ :: _, _, _, h => by cases h
  | _ :: _, [], _, _, h => by cases h
theorem bookE_len : ∀ {ns : List Str} {rows : List (List Str)}, rows.length = ns.length → (bookE ns rows).length = ns.length
  | [], [], _ => rfl
  | n :: ns, s :: rows, h => congrArg (· + 1) (bookE_len (Nat.succ.inj h))
  | [], _ :: _, h => by cases h
  | _ :: _, [], h => by cases h
theorem pairQ_len : ∀ {xs : List Str} {qs : List Int}, qs.length = xs.length → (pairQ xs qs).length = xs.length
  | [], [], _ => rfl
  | n :: ns, s :: rows, h => congrArg (· + 1) (pairQ_len (Nat.succ.inj h))
  | [], _ :: _, h => by cases h
  | _ :: _, [], h => by cases h
theorem pairQ_app : ∀ {xs : List Str} {qs : List Int} {x : Str} {q : Int}, qs.length = xs.length → pairQ (xs ++ [x]) (qs ++ [q]) = pairQ xs qs ++ [.tuple [.str x, .int q]]
  | [], [], x, r, _ => rfl
  | n :: ns, s :: rows, x, r, h => congrArg (PyData.tuple [.str n, .int s] :: ·) (pairQ_app (Nat.succ.inj h))
  | [], _ :: _, _, _, h => by cases h
  | _ :: _, [], _, _, h => by cases h
section
variable {P : Program} {w : World} {K : PySem.W.Frag} {mg : Str → Option Value} {base : Heap}
theorem law_right_ok (L : TurnLaw) (T : Bl mg) (F : DefAt K mg "_law_right" s_law_right) (D_hand : DefOk P w K mg base CX0 15 "_law_by_hand_right" [] (spD K 0 m_hand)) (D_law_take : DefOk P w K mg base CX0 1 "_law_take" ["_law_urn", "_law_low_so"] (spTake K)) (D_law_of : DefOk P w K mg base CX0 2 "_law_of" ["_law_urn", "_law_some_so"] (spOf K)) (D_law_row : DefOk P w K mg base CX0 2 "_law_row" ["_law_urn", "_law_tags_so"] (spRow K))
    (D_law_bills : DefOk P w K mg base CX0 1 "_law_bills" ["_law_urn", "_law_count_so"] (spD K 2 m_law_bills)) (D_law_pairs : DefOk P w K mg base CX0 1 "_law_pairs" ["_law_table_so"] (spD K 1 m_law_pairs)) (D_nearest_lists : DefOk P w K mg base CX0 14 "nearest_lists" ["book", "payer"] (spD K 2 m_nearest_lists)) (D_unlike_payers : DefOk P w K mg base CX0 11 "unlike_payers" ["one", "other"] (spD K 2 m_unlike_payers)) (D_fewest_steps : DefOk P w K mg base CX0 1 "fewest_steps" ["one", "other"] (spD K 2 m_fewest_steps)) (D_law_nearest : DefOk P w K mg base CX0 3 "_law_nearest" ["_law_books", "_law_tags_so", "_law_tag"] (spD K 3 m_law_nearest)) (D_law_steps : DefOk P w K mg base CX0 1 "_law_steps" ["_law_one_so", "_law_two_so"] (spD K 2 m_law_steps)) (D_parting_payment : DefOk P w K mg base CX0 12 "parting_payment" ["one", "other"] (spD K 2 m_parting_payment)) (D_law_same : DefOk P w K mg base CX0 8 "_law_same" ["_law_got", "_law_goal"] (spD K 2 m_law_same)) (D_law_judged : DefOk P w K mg base CX0 2 "_law_judged" ["_law_one_so", "_law_two_so", "_law_thing_so"] (spD K 3 m_law_judged)) (D_is_parting_payment : DefOk P w K mg base CX0 12 "is_parting_payment" ["one", "other", "thing"] (spD K 3 m_is_parting_payment)) :
    DefOk P w K mg base CX0 16 "_law_right" ["_law_urn"] (spRight K) := by
  refine F.okH (N := N_right) (ps := ["_law_urn"]) sc_law_right (fun _ _ _ _ _ _ us hl => match us, hl with | [_], _ => rfl) (fun _ _ _ _ _ _ us hl => match us, hl with | [_], _ => rfl) (fun vs H Q E ⟨u, a, b, G, h, _⟩ => by rw [h] <;> rfl) fun f cdv A outer s H vs Q E hr h => ?_
  refine ⟨_, pss_cons (ps_if (pdt_not (pdt_val (pd_def0 D_hand hr rfl pass0))) (pss_one (ps_ret pe_bl)) pss_nil)
    (pss_cons (ps_for PassesOwn.never rfl (pdi_range rfl T.range pd_int) (pdg_name (i := 1) sc_law_right.nd rfl (by first | exact Or.inl rfl | exact Or.inr rfl))
    (pss_cons (ps_par (i := 8) (j := 9) rfl sc_law_right.nd rfl rfl (by decide) rfl rfl (pa_cons (pe_defP D_law_bills (hr.mono (by decide)) rfl pass0 (pa_cons (pv 0) (pa_cons (pe_op op_addD pe_int (pe_defP D_law_take (hr.mono (by decide)) rfl pass0 (pa_cons (pv 0) (pa_cons pe_int pa_nil)))) pa_nil))) (pa_cons pe_dnewK pa_nil)) (by rfl))
    (pss_cons (ps_for PassesOwn.never rfl (pi_tup (pe_slice sl_D (pd_tup (pda_cons pd_str (pda_cons pd_str (pda_cons pd_str pda_nil)))) po_none (po_some (pe_op op_addD pe_int (pe_defP D_law_take (hr.mono (by decide)) rfl pass0 (pa_cons (pv 0) (pa_cons pe_int pa_nil))))))) (pdg_name (i := 2) sc_law_right.nd rfl (by first | exact Or.inl rfl | exact Or.inr rfl)) (pss_one (ps_dput (hu_of hr) (pv 9) (pd 2) (pe_defP D_law_row (hr.mono (by decide)) rfl pass0 (pa_cons (pv 0) (pa_cons (pd 8) pa_nil))) (by rfl))))
    (pss_cons (ps_par (i := 10) (j := 2) rfl sc_law_right.nd rfl rfl (by decide) rfl rfl (pa_cons (pd_tup (pda_cons (pd 8) (pda_cons (pd_def D_law_pairs (hr.mono (by decide)) rfl pass0 (pda_cons (pd 9) pda_nil)) pda_nil))) (pa_cons (pe_defP D_law_of (hr.mono (by decide)) rfl pass0 (pa_cons (pv 0) (pa_cons (pd_callB (call_sortD hr.units) rfl T.sorted boot_sorted (pda_cons (pd_keysStr (own := [("_law_own", 13)]) (i := 9) (j := 13) rfl sc_law_right.nd rfl (by first | exact Or.inl rfl | exact Or.inr (Or.inl rfl) | exact Or.inr (Or.inr rfl)) (blkOk_by (own := [("_law_own", 13)]) (N := ["_law_urn", "_law_turn", "_law_tag", "_law_late", "_law_got", "_law_goal", "_law_paper", "_law_given", "_law_tags_so", "_law_books", "_law_host", "_law_far", "_law_is_so", "_law_own"]) (sc := (defScope s_law_right)) (by decide +kernel)) rfl (fun _ _ _ _ _ => (pdg_name (i := 13) sc_law_right.nd rfl (by first | exact Or.inl rfl | exact Or.inr rfl))) (fun _ _ _ _ _ => (pd_callTy call_strD rfl T.str boot_str (pda_cons (pd 13) pda_nil)))) pda_nil)) pa_nil))) pa_nil)) (by rfl))
    (pss_cons (ps_set (i := 3) sc_law_right.nd rfl (by first | exact Or.inl rfl | exact Or.inr rfl) (pe_callTy L2.call_dictD rfl T.dict boot_dict (pa_cons (pv 9) pa_nil)))
    (pss_cons (ps_dput (hu_of hr) (pv 3) (pd 2) (pe_defP D_law_row (hr.mono (by decide)) rfl pass0 (pa_cons (pv 0) (pa_cons (pd 8) pa_nil))) (by rfl))
    (pss_cons (pds_f0 (pds_par (i := 11) (j := 12) rfl sc_law_right.nd rfl rfl (by decide) rfl rfl (pd_tup (pda_cons (pd 8) (pda_cons (pd_def D_law_pairs (hr.mono (by decide)) rfl pass0 (pda_cons (pd 3) pda_nil)) pda_nil))) (pd_cmp (op_neDD hr.units) (pd_dget (hu_of hr) (pd 3) (pd 2)) (pd_dget (hu_of hr) (pd 9) (pd 2))) (by rfl)))
    (pss_cons (pds_f0 (pds_set (i := 4) sc_law_right.nd rfl (by first | exact Or.inl rfl | exact Or.inr rfl) (pd_lst (pda_cons (pd_def D_nearest_lists (hr.mono (by decide)) rfl pass0 (pda_cons (pd 10) (pda_cons (pd 2) pda_nil))) (pda_cons (pd_def D_unlike_payers (hr.mono (by decide)) rfl pass0 (pda_cons (pd 10) (pda_cons (pd 11) pda_nil))) (pda_cons (pd_def D_fewest_steps (hr.mono (by decide)) rfl pass0 (pda_cons (pd_dget (hu_of hr) (pd 9) (pd 2)) (pda_cons (pd_dget (hu_of hr) (pd 3) (pd 2)) pda_nil))) pda_nil))))))
    (pss_cons (pds_f0 (pds_set (i := 5) sc_law_right.nd rfl (by first | exact Or.inl rfl | exact Or.inr rfl) (pd_lst (pda_cons (pd_def D_law_nearest (hr.mono (by decide)) rfl pass0 (pda_cons (pd 9) (pda_cons (pd 8) (pda_cons (pd 2) pda_nil)))) (pda_cons (pd_if (pdt_val (pd 12)) (pd_tup (pda_cons (pd 2) pda_nil)) (pd_tup pda_nil)) pda_nil)))))
    (pss_cons (pds_f0 (pds_set (i := 5) sc_law_right.nd rfl (by first | exact Or.inl rfl | exact Or.inr rfl) (pd_op op_addD (pd 5) (pd_lst (pda_cons (pd_def D_law_steps (hr.mono (by decide)) rfl pass0 (pda_cons (pd_dget (hu_of hr) (pd 9) (pd 2)) (pda_cons (pd_dget (hu_of hr) (pd 3) (pd 2)) pda_nil))) pda_nil)))))
    (pss_cons (pds_f0 (pds_set (i := 6) sc_law_right.nd rfl (by first | exact Or.inl rfl | exact Or.inr rfl) (pd_def D_parting_payment (hr.mono (by decide)) rfl pass0 (pda_cons (pd 10) (pda_cons (pd 11) pda_nil)))))
    (pss_cons (pds_f0 (pds_if (PW.pt (pdw_or (pdt_not (pdt_val (pd_def D_law_same (hr.mono (by decide)) rfl pass0 (pda_cons (pd 4) (pda_cons (pd 5) pda_nil))))) (pdw_or1 (pdt_cmp (op_neDD hr.units) (pd_cmp op_isD (pd 6) pd_non) (pd_not (pd 12)))))) (pds_one (pds_ret pd_bl)) pds_nil))
    (pss_cons (pds_f0 (pds_if (PW.pt (pdw_and (pdt_val (pd 12)) (pdw_and1 (pdt_not (pdt_val (pd_def D_law_judged (hr.mono (by decide)) rfl pass0 (pda_cons (pd 10) (pda_cons (pd 11) (pda_cons (pd 6) pda_nil))))))))) (pds_one (pds_ret pd_bl)) pds_nil))
    (pss_cons (pds_f0 (pds_if (PW.pt (pdw_and (pdt_val (pd 12)) (pdw_and1 (pdt_not (pdt_val (pd_def D_is_parting_payment (hr.mono (by decide)) rfl pass0 (pda_cons (pd 10) (pda_cons (pd 11) (pda_cons (pd 6) pda_nil))))))))) (pds_one (pds_ret pd_bl)) pds_nil))
    (pss_cons (ps_set (i := 7) sc_law_right.nd rfl (by first | exact Or.inl rfl | exact Or.inr rfl) (pe_tupF (pa_cons (pe_callTy call_tupD rfl T.tuple boot_tuple (pa_cons (pe_lc (g := liG K (Rp K) [13] (tgN 13)) (tt := tYes) (te := tTupF (tCons (liE K (dVar 13)) (tCons (fun σ H Q => tCons (tVar 0) (tCons (tC (.int 3)) tNil) σ H fun vs H1 => spTake K vs H1 Q E0) tNil))) rfl sc_law_right.nd (pdi_seq (pd 8)) (blkOk_by (own := [("_law_own", 13)]) (N := ["_law_urn", "_law_turn", "_law_tag", "_law_late", "_law_got", "_law_goal", "_law_paper", "_law_given", "_law_tags_so", "_law_books", "_law_host", "_law_far", "_law_is_so", "_law_own"]) (sc := (defScope s_law_right)) (by decide +kernel)) (fun _ _ _ _ _ => (pdg_name (i := 13) sc_law_right.nd rfl (by first | exact Or.inl rfl | exact Or.inr rfl))) (fun _ _ _ _ _ => pts_nil) (fun _ _ _ _ _ => pe_tupF (pa_cons (pd 13) (pa_cons (pe_defP D_law_take (hr.mono (by decide)) rfl pass0 (pa_cons (pv 0) (pa_cons pe_int pa_nil))) pa_nil))) (by intro _; rfl)) pa_nil)) (pa_cons (pd 2) (pa_cons (pe_defP D_law_take (hr.mono (by decide)) rfl pass0 (pa_cons (pv 0) (pa_cons pe_int pa_nil))) pa_nil)))))
    (pss_one (pds_f0 (pds_if (pdt_cmp (op_neDD hr.units) (pd_def D_is_parting_payment (hr.mono (by decide)) rfl pass0 (pda_cons (pd 10) (pda_cons (pd 11) (pda_cons (pd 7) pda_nil)))) (pd_def D_law_judged (hr.mono (by decide)) rfl pass0 (pda_cons (pd 10) (pda_cons (pd 11) (pda_cons (pd 7) pda_nil))))) (pds_one (pds_ret pd_bl)) pds_nil))))))))))))))))))
    (pss_one (ps_ret pe_bl))), ?_⟩
  obtain ⟨u, a, b, G, rfl, vw, gu, hu, q⟩ := h
  have U0 : Us K u G H b 0 G (L2.start N_right [.ref u]) H (List.replicate 14 none) := ⟨NxtM.refl vw (fun x hx => by rw [List.mem_singleton.mp hx]; exact gu), Sl.none_ (n := 14) rfl, rfl, a, 0, hu, Int.le_refl _, Int.le_refl _⟩
  refine ⟨G, _, false, vw, U0.s, ?_, fun G1 H1 n1 => iteF ?_⟩
  · show dNotT (dB (fun _ => m_hand [])) _ = _
    rw [hand_true]
    rfl
  have U1 := U0.step n1
  refine ⟨G1, _, [.int 0, .int 1, .int 2, .int 3], n1.v, U1.s, rfl, fun J G2 H2 n2 wk => ?_⟩
  have U2 := U1.step n2
  refine for_hand (fun i G3 σ H3 => Us K u G H b (10000 * i) G3 σ H3 (List.replicate 14 none) ∧ Same G2 G3) wk ⟨U2.cap_le (by decide), Same.refl _⟩ (fun i G3 σ H3 z => ⟨z.2, z.1.n.v⟩) ?_ ?_
  · rintro i d G3 σ H3 hd ⟨U3, sg3⟩ x G4 H4 n4 rx
    have hi : i < 4 := (List.getElem?_eq_some_iff.mp hd).1
    have hcap : (10000 * (i : Int)) ≤ 40000 := by omega
    have U4 := U3.step n4
    refine ⟨G4, List.replicate 14 none, d, _, n4.v, U4.s, rx, rfl, fun σ5 s5 a5 => ?_⟩
    have U5 : Us K u G H b (10000 * i) G4 σ5 H4 (List.replicate 14 none) := ⟨U4.n, Sl.none_ (by have := s5.len; rw [List.length_set, List.length_replicate] at this; exact this), by rw [a5.2 0 (by decide)]; exact U4.s0, U4.hu⟩
    have sg5 := sg3.trans n4.g
    generalize hcp : (10000 * (i : Int)) = cap at U5 hcap
    -- tags, books
    refine ⟨.ref u, U5.s0, .ref u, U5.s0, ?_⟩
    obtain ⟨a5, c5, k1, k2, k3, k4, k5, k6⟩ := U5.takeE (by omega)
    refine ⟨u, 4, a5, b, c5, G4, rfl, k1, k2, k3, by decide, by decide, k4, by omega, fun r a' c' H6 r0 r1 c0 c1 nn6 hu6 => ?_⟩
    have U6 := k6 _ _ _ _ 1 c0 c1 nn6 hu6
    clear k1 k2 k3 k4 k5 k6
    refine ⟨G4, .int 1, .int r, .int (1 + r), U6.n.v, .int 1, .int r, rfl, fun v7 G7 H7 n7 r7 => ?_⟩
    cases r7
    have U7 := U6.step n7
    obtain ⟨a7, c7, hu7, _⟩ := id U7.hu
    obtain ⟨n, hn, hbills⟩ := bills_of (.list [.int a7, .int b, .int c7]) r0 r1
    obtain ⟨tnd, tok, tlen, tonly⟩ := tags_nd n hn
    generalize htags : tagL.take (n + 1) = tags at hbills tnd tok tlen tonly
    refine ⟨rfl, upd G7 u (.lst [.int a7, .int b, .int c7]), [.list [.int a7, .int b, .int c7], .int (1 + r)], strT tags, same_open U7.n.v hu7, .cons (.lst upd_same (.cons (.int _) (.cons (.int _) (.cons (.int _) .nil)))) (.cons (.int _) .nil), hbills, fun v8 G8 H8 n8 r8 => ?_⟩
    obtain ⟨G9, nm9, U9, r9⟩ := U7.seen hu7 n8 r8 tonly ⟨_, rfl⟩
    refine fun p hp => ⟨v8, .ref p, rfl, ?_⟩
    obtain ⟨hp0, hpu, gp9⟩ := U9.fresh hp
    have U10 : Us K u G H b (cap + 1) G9 ((σ5.set 8 (some v8)).set 9 (some (.ref p))) (upd H8 p (.dK [])) (rhoT (strT tags)) := ((U9.set (i := 8) (by decide) r9).forget (i := 9) (v := .ref p) (by decide)).lay hp
    have sg10 : Same G4 G9 := n7.g.trans nm9.g
    have l10 : ((σ5.set 8 (some v8)).set 9 (some (V.ref p))).length = 14 := U10.s.len
    have s9 : ((σ5.set 8 (some v8)).set 9 (some (V.ref p)))[9]? = some (some (.ref p)) := List.getElem?_set_self (by rw [List.length_set] at l10; omega)
    have hp10 : (upd H8 p (.dK [])) p = some (.dK []) := upd_same
    generalize (σ5.set 8 (some v8)).set 9 (some (V.ref p)) = σ10 at U10 l10 s9 ⊢
    generalize upd H8 p (.dK []) = H10 at U10 hp10 ⊢
    clear r9 U9 hp U7 U6 hu7 n8 r8
    -- books
    refine ⟨G9, _, .tuple (nameL.map PyData.str), U10.n.v, U10.s, rfl, fun v11 G11 H11 n11 r11 => ?_⟩
    have U11 := U10.step n11
    refine ⟨.ref u, U11.s0, ?_⟩
    obtain ⟨a5, c5, k1, k2, k3, k4, k5, k6⟩ := U11.takeE (by omega)
    refine ⟨u, 3, a5, b, c5, G11, rfl, k1, k2, k3, by decide, by decide, k4, by omega, fun r a' c' H12 r0 r1 c0 c1 nn12 hu12 => ?_⟩
    have U12 := k6 _ _ _ _ 1 c0 c1 nn12 hu12
    clear k1 k2 k3 k4 k5 k6
    refine ⟨G11, .int 1, .int r, .int (1 + r), U12.n.v, .int 1, .int r, rfl, fun v13 G13 H13 n13 r13 => ?_⟩
    cases r13
    have U13 := U12.step n13
    obtain ⟨m, hm, hnames⟩ := names_of r0 r1
    obtain ⟨nnd, nlen⟩ := names_nd m hm
    generalize hns : nameL.take (m + 1) = ns at hnames nnd nlen
    refine ⟨1 + r, rfl, G13, .tuple (nameL.map PyData.str), .tuple (ns.map PyData.str), U13.n.v, r11.mono n13.g, by rw [← hnames] <;> rfl, fun v14 G14 H14 n14 r14 => ?_⟩
    have U14 := U13.step n14
    have sg14 := sg10.trans (n11.g.trans (n13.g.trans n14.g))
    cases r14 with
    | @tup ta txs _ hta rta =>
    refine ⟨ta, rfl, ⟨txs, (hta.mono U14.n.v).sq⟩, ?_⟩
    have hp14 : G14 p = none ∧ H14 p = some (.dK []) := by
      have z1 := n11.h _ _ hp10
      have z2 := n11.mask gp9 hp10
      obtain ⟨z3, z4⟩ := nn12.keep hpu z2 z1
      have z5 := n13.h _ _ z4
      have z6 := n13.mask z3 z4
      exact ⟨n14.mask z6 z5, n14.h _ _ z5⟩
    refine for_hand (fun i G3 σ H3 => (∃ kvs rows, BookInv K u p G H b (cap + 2) (strT tags) ns tags i G3 σ H3 kvs rows) ∧ Same G14 G3) (walkD_tup hta rta) ⟨⟨[], [], ⟨by simpa using U14.cap_le (by omega), s9, hp14.1, hp14.2, .nil, rfl, fun r hr => by cases hr⟩⟩, Same.refl _⟩ (fun i G3 σ H3 z => ⟨z.2, z.1.elim fun _ y => y.elim fun _ y => y.U.n.v⟩) ?_ ?_
    · rintro j d G3 σ H3 hd ⟨⟨kvs, rows, I⟩, sg⟩ x G4 H4 n4 rx
      have hj : j < ns.length := by
        have := (List.getElem?_eq_some_iff.mp hd).1
        rwa [List.length_map] at this
      have hdj : d = .str ns[j] := by
        rw [List.getElem?_map, List.getElem?_eq_getElem hj] at hd
        exact (Option.some.inj hd).symm
      subst hdj
      have hj3 : j < 3 := by omega
      have V4 := I.U.step n4
      have gp4 := n4.mask I.gp I.hp
      have hp4 := n4.h _ _ I.hp
      refine ⟨G4, _, .str ns[j], _, n4.v, V4.s, rx, rfl, fun σ5 s5 a5 => ?_⟩
      have V5 : Us K u G H b (cap + 2 + 1000 * j) G4 σ5 H4 ((rhoT (strT tags)).set 2 (some (.str ns[j]))) := ⟨V4.n, s5, by rw [a5.2 0 (by decide)]; exact V4.s0, V4.hu⟩
      have z9 : σ5[9]? = some (some (.ref p)) := by rw [a5.2 9 (by decide)]; exact I.s9
      refine ⟨.ref u, V5.s0, G4, _, strT tags, V5.n.v, V5.s, rfl, fun v6 G6 H6 n6 r6 => ?_⟩
      have V6 := V5.step n6
      obtain ⟨a5, c5, k1, k2, k3, k4, k5, k6⟩ := V6.takeE (by omega)
      refine ⟨u, v6, a5, b, c5, G6, tags, rfl, k1, k2, k3, r6, tnd, tok, by omega, k4, by omega, fun r v' a' c' G7 H7 rnd rsub c0 c1 nn7 hu7 r7 => ?_⟩
      have V7 := k6 _ _ _ _ 1000 c0 c1 nn7 hu7
      obtain ⟨gp7, hp7⟩ := nn7.keep hpu (n6.mask gp4 hp4) (n6.h _ _ hp4)
      refine ⟨.ref p, z9, G7, _, .str ns[j], V7.n.v, V7.s, rfl, fun v9 G9 H9 n9 r9 => ?_⟩
      cases r9
      have V9 := V7.step n9
      have gp9 := n9.mask gp7 hp7
      have hp9 := n9.h _ _ hp7
      have sgx := n4.g.trans (n6.g.trans (nn7.g.trans n9.g))
      have rk9 := RpKv.mono sgx I.rk
      have hlen : (ns.take j).length = j := by rw [List.length_take]; omega
      refine ⟨p, _, rfl, DPut.k (k := .inr ns[j]) hp9 (by rw [rk9.length, bookE_len (by rw [I.len, hlen]), hlen]; exact small1000 (by omega)), G9, ⟨_, rows ++ [r], ⟨?_, z9, gp9, upd_same, ?_, ?_, ?_⟩⟩, sg.trans sgx⟩
      · have V10 := (V9.weak (ρ' := rhoT (strT tags)) rfl (fun i d h => by
          rcases i with _ | _ | _ | _ | _ | _ | _ | _ | _ | _ | _ | _ | _ | _ | i <;> first | exact h | (cases h; done) | (simp [rhoT] at h; done))).write (o := .dK (putK kvs (.inr ns[j]) v')) hp0 hpu gp9
        exact V10.cap_le (by push_cast; omega)
      · have e1 : ns.take (j + 1) = ns.take j ++ [ns[j]] := by rw [List.take_add_one, List.getElem?_eq_getElem hj] <;> rfl
        have e2 : ns[j] ∉ ns.take j := fun z => by
          obtain ⟨i2, h1, h2⟩ := List.getElem_of_mem z
          rw [List.length_take] at h1
          rw [List.getElem_take] at h2
          have := nodup_ix nnd (i := i2) (j := j) (x := ns[j]) (by rw [List.getElem?_eq_getElem (by omega), h2]) (List.getElem?_eq_getElem hj)
          omega
        have e3 := rk9.put (x := ns[j]) (r7.mono n9.g)
        unfold putE at e3
        rw [bookE_get e2] at e3
        rw [e1, bookE_app (by rw [I.len, hlen])]
        exact e3
      · rw [List.length_append, I.len] <;> rfl
      · intro s hs
        rcases List.mem_append.mp hs with hs | hs
        · exact I.ok s hs
        · rw [List.mem_singleton.mp hs]
          exact ⟨rnd, rsub⟩
    · rintro G3 σ H3 ⟨⟨kvs, rows, I⟩, sg⟩
      have hil := I.len
      rw [List.length_map] at I hil
      have rk3 := I.rk
      rw [List.take_length] at rk3
      have TL := L n m rows hn hm (by omega) (by rw [htags]; exact I.ok)
      rw [htags, hns] at TL
      obtain ⟨host, e_host, e_tags, TL⟩ := TL
      have U20 : Us K u G H b (cap + 2 + 1000 * (ns.length : Nat)) (upd G3 p (.dK kvs)) σ H3 (rhoB (strT tags) (.dict (bookE ns rows))) := by
        have z := I.U.tell hp0 hpu I.gp I.hp
        exact ⟨z.n, z.s.add (i := 9) I.s9 (.dic upd_same (RpKv.mono (same_upd I.gp) rk3)), z.s0, z.hu⟩
      have U20 : Us K u G H b (cap + 3002) (upd G3 p (.dK kvs)) σ H3 (rhoB (strT tags) (.dict (bookE ns rows))) := U20.cap_le (by omega)
      have sg20 : Same G4 (upd G3 p (.dK kvs)) := sg14.trans (sg.trans (same_upd I.gp))
      generalize upd G3 p (.dK kvs) = G20 at U20 sg20
      clear I
      -- host, tag
      refine ⟨G20, _, host, U20.n.v, U20.s, e_host, fun v21 G21 H21 n21 r21 => ⟨.ref u, U20.s0, G21, _, .list (ns.map PyData.str), n21.v, U20.s.mono n21.g, e_tags, fun v22 G22 H22 n22 r22 => ?_⟩⟩
      have U22 := (U20.step n21).step n22
      obtain ⟨a5, c5, k1, k2, k3, k4, k5, k6⟩ := U22.takeE (by omega)
      refine ⟨u, v22, a5, b, c5, G22, _, rfl, k1, k2, k3, r22, by rw [List.length_map]; omega, by rw [List.length_map]; omega, k4, by omega, fun d v' a' c' G23 H23 hd c0 c1 nn23 hu23 r23 => ⟨v21, v', rfl, ?_⟩⟩
      have U23 := k6 _ _ _ _ 1 c0 c1 nn23 hu23
      clear k1 k2 k3 k4 k5 k6
      obtain ⟨tg, htg, rfl⟩ := List.mem_map.mp hd
      have U24 : Us K u G H b (cap + 3003) G23 ((σ.set 10 (some v21)).set 2 (some v')) H23 (rhoH (strT tags) (.dict (bookE ns rows)) host (.str tg)) :=
        ((U23.set (i := 10) (by decide) (r21.mono (n22.g.trans nn23.g))).set (i := 2) (by decide) r23).cap_le (by omega)
      have sg24 := sg20.trans (n21.g.trans (n22.g.trans nn23.g))
      generalize (σ.set 10 (some v21)).set 2 (some v') = σ24 at U24 ⊢
      clear U23 U22 U20 nn23 n21 n22 r21 r22 r23
      -- late
      obtain ⟨v9, h9, r9⟩ := U24.s.at_ 9 (.dict (bookE ns rows)) rfl
      cases r9 with
      | @dic pa kvs9 _ hpa rk9 =>
      refine ⟨.ref pa, h9, pa, kvs9, rfl, .inl (U24.n.v _ _ hpa), fun lq hq => ?_⟩
      obtain ⟨hq0, hqu, gq⟩ := U24.fresh hq
      have U25 : Us K u G H b (cap + 3003) G23 (σ24.set 3 (some (.ref lq))) (upd H23 lq (.dK kvs9)) (rhoH (strT tags) (.dict (bookE ns rows)) host (.str tg)) := (U24.forget (i := 3) (v := .ref lq) (by decide)).lay hq
      have z3 : (σ24.set 3 (some (V.ref lq)))[3]? = some (some (.ref lq)) := List.getElem?_set_self (by rw [U24.s.len]; show 3 < 14; decide)
      have hq25 : (upd H23 lq (.dK kvs9)) lq = some (.dK kvs9) := upd_same
      clear U24 hq h9
      refine ⟨.ref u, U25.s0, G23, _, strT tags, U25.n.v, U25.s, rfl, fun v6 G6 H6 n6 r6 => ?_⟩
      have V6 := U25.step n6
      obtain ⟨a5, c5, k1, k2, k3, k4, k5, k6⟩ := V6.takeE (by omega)
      refine ⟨u, v6, a5, b, c5, G6, tags, rfl, k1, k2, k3, r6, tnd, tok, by omega, k4, by omega, fun row v' a' c' G7 H7 rnd rsub c0 c1 nn7 hu7 r7 => ?_⟩
      have V7 := k6 _ _ _ _ 1000 c0 c1 nn7 hu7
      clear k1 k2 k3 k4 k5 k6
      obtain ⟨gq7, hq7⟩ := nn7.keep hqu (n6.mask gq hq25) (n6.h _ _ hq25)
      refine ⟨.ref lq, z3, G7, _, .str tg, V7.n.v, V7.s, rfl, fun v9 G9 H9 n9 r9 => ?_⟩
      cases r9
      have V9 := V7.step n9
      have gq9 := n9.mask gq7 hq7
      have hq9 := n9.h _ _ hq7
      have sgx := n6.g.trans (nn7.g.trans n9.g)
      have rkx := RpKv.mono sgx rk9
      refine ⟨lq, _, rfl, DPut.k (k := .inr tg) hq9 (by rw [rkx.length, bookE_len hil]; exact small1000 (by omega)), ?_⟩
      have rky := rkx.put (x := tg) (r7.mono n9.g)
      have V10 := V9.write (o := .dK (putK kvs9 (.inr tg) v')) hq0 hqu gq9
      have V11 := V10.tell (o := .dK (putK kvs9 (.inr tg) v')) hq0 hqu gq9 upd_same
      have U30 : Us K u G H b (cap + 4003) (upd G9 lq (.dK (putK kvs9 (.inr tg) v'))) (σ24.set 3 (some (V.ref lq))) (upd H9 lq (.dK (putK kvs9 (.inr tg) v'))) (rhoL (strT tags) (.dict (bookE ns rows)) host (.str tg) (.dict (putE (bookE ns rows) tg (strT row)))) :=
        (show Us K u G H b (cap + 3003 + 1000) _ (σ24.set 3 (some (V.ref lq))) _ _ from ⟨V11.n, V11.s.add (i := 3) z3 (.dic upd_same (RpKv.mono (same_upd gq9) rky)), V11.s0, V11.hu⟩).cap_le (by omega)
      have sg30 := sg24.trans (sgx.trans (same_upd (o := .dK (putK kvs9 (.inr tg) v')) gq9))
      generalize upd G9 lq (.dK (putK kvs9 (.inr tg) v')) = G30 at U30 sg30
      generalize upd H9 lq (.dK (putK kvs9 (.inr tg) v')) = H30 at U30 ⊢
      clear V11 V10 V9 V7 V6 U25 rky rkx nn7 n6 n9 r6 r7
      obtain ⟨ρ13, e_mid, l13, t13, g13, TL⟩ := TL tg row htg ⟨rnd, rsub⟩
      obtain ⟨_, e5, e_mid⟩ := seq_inv e_mid
      obtain ⟨_, e6, e_mid⟩ := seq_inv e_mid
      obtain ⟨_, e7, e_mid⟩ := seq_inv e_mid
      obtain ⟨_, e8, e_mid⟩ := seq_inv e_mid
      obtain ⟨_, e9, e_mid⟩ := seq_inv e_mid
      obtain ⟨_, e10, e_mid⟩ := seq_inv e_mid
      obtain ⟨_, e11, e12⟩ := seq_inv e_mid
      refine U30.pure e5 fun σ31 G31 H31 U31 s31 => ?_
      refine U31.pure e6 fun σ32 G32 H32 U32 s32 => ?_
      refine U32.pure e7 fun σ33 G33 H33 U33 s33 => ?_
      refine U33.pure e8 fun σ34 G34 H34 U34 s34 => ?_
      refine U34.pure e9 fun σ35 G35 H35 U35 s35 => ?_
      refine U35.pure e10 fun σ36 G36 H36 U36 s36 => ?_
      refine U36.pure e11 fun σ37 G37 H37 U37 s37 => ?_
      refine U37.pure e12 fun σ38 G38 H38 U38 s38 => ?_
      have sg38 := sg30.trans (s31.trans (s32.trans (s33.trans (s34.trans (s35.trans (s36.trans (s37.trans s38)))))))
      clear U30 U31 U32 U33 U34 U35 U36 U37 s31 s32 s33 s34 s35 s36 s37 s38 e5 e6 e7 e8 e9 e10 e11 e12
      have hl38 : σ38.length = 14 := by rw [U38.s.len]; exact l13
      have e8 : dItems (dVar 8) ρ13 = some (tags.map PyData.str) := by
        unfold dItems dVar
        rw [t13]
        rfl
      refine ⟨G38, ρ13, tags.map PyData.str, U38.n.v, U38.s, e8, fun J2 G39 H39 n39 wk2 D hD => ?_⟩
      have U39 := U38.step n39
      obtain ⟨hD0, hDu, gD39⟩ := U39.fresh hD
      refine lc_hand (fun j Gj H1 acc => ∃ qs : List Int, RpAll K Gj acc (pairQ (tags.take j) qs) ∧ qs.length = j ∧ (∀ q ∈ qs, 0 ≤ q ∧ q < 3) ∧ Us K u G H b (cap + 4003 + (j : Nat)) Gj σ38 H1 ρ13 ∧ Gj D = none ∧ H1 D = some (.lst acc) ∧ Same G39 Gj) wk2 ?_ ?_ ?_ ?_
      · exact ⟨[], .nil, rfl, (fun q hq => by cases hq), (U39.lay hD).cap_le (by omega), gD39, upd_same, Same.refl _⟩
      · rintro j G5 H5 acc ⟨qs, _, _, _, V, _, _, sg⟩
        exact ⟨sg, V.n.v⟩
      · rintro j d G5 H5 acc hd ⟨qs, ra, ql, qok, V, gD, hDl, sgD⟩ x G6 H6 n6 rx
        have hj : j < tags.length := by
          have := (List.getElem?_eq_some_iff.mp hd).1
          rwa [List.length_map] at this
        have hdj : d = .str tags[j] := by
          rw [List.getElem?_map, List.getElem?_eq_getElem hj] at hd
          exact (Option.some.inj hd).symm
        subst hdj
        cases rx
        have V6 := V.step n6
        have gD6 := n6.mask gD hDl
        have hD6 := n6.h _ _ hDl
        refine ⟨G6, List.replicate 14 none, .str tags[j], _, n6.v, Sl.none_ (by rw [wipe_length]; exact hl38), .str _, rfl, fun σ7 s7 a7 => ⟨wipe_agr a7 (by decide), ?_⟩⟩
        have z0 : σ7[0]? = some (some (.ref u)) := by
          rw [a7.2 0 (by decide)]
          exact (wipe_out (by decide)).trans V.s0
        unfold tYes
        refine iteT ?_
        refine ⟨G6, _, .str tags[j], n6.v, s7, rfl, fun v8 G8 H8 n8 r8 => ⟨.ref u, z0, ?_⟩⟩
        cases r8
        have V8 := V6.step n8
        obtain ⟨a5, c5, k1, k2, k3, k4, k5, k6⟩ := V8.takeE (by omega)
        refine ⟨u, 3, a5, b, c5, G8, rfl, k1, k2, k3, by decide, by decide, k4, by omega, fun r a' c' H9 r0 r1 c0 c1 nn9 hu9 => ?_⟩
        have V9 := k6 _ _ _ _ 1 c0 c1 nn9 hu9
        clear k1 k2 k3 k4 k5 k6
        obtain ⟨gD9, hD9⟩ := nn9.keep hDu (n8.mask gD6 hD6) (n8.h _ _ hD6)
        refine ⟨by show 2 ≤ sizeLine; decide, fun tp o htp ho => ?_⟩
        have nu := Nxt.upd (o := .frz o (.tup [.str tags[j], .int r])) V9.n.v htp
        have V10 := V9.step nu
        have gD10 := nu.mask gD9 hD9
        have hD10 := nu.h _ _ hD9
        have sgx := n6.g.trans (n8.g.trans nu.g)
        refine ⟨acc, hD10, by rw [ra.length, pairQ_len (by rw [ql, List.length_take]; omega), List.length_take]; exact small1000 (by omega), upd G8 tp (.frz o (.tup [.str tags[j], .int r])), acc ++ [.ref tp], qs ++ [r], ?_, ?_, ?_, ?_, gD10, upd_same, sgD.trans sgx⟩
        · have e1 : tags.take (j + 1) = tags.take j ++ [tags[j]] := by rw [List.take_add_one, List.getElem?_eq_getElem hj] <;> rfl
          rw [e1, pairQ_app (by rw [ql, List.length_take]; omega)]
          exact (ra.mono sgx).append (.cons (.tup ⟨o, ho, upd_same⟩ (.cons (.str _) (.cons (.int _) .nil))) .nil)
        · rw [List.length_append, ql] <;> rfl
        · intro y hy
          rcases List.mem_append.mp hy with hy | hy
          · exact qok y hy
          · rw [List.mem_singleton.mp hy]
            exact ⟨r0, r1⟩
        · exact (V10.write hD0 hDu gD10).cap_le (by push_cast; omega)
      · rintro G5 H5 acc ⟨qs, ra, ql, qok, V, gD, hDl, sgD⟩
        rw [List.length_map] at ra ql V
        rw [List.take_length] at ra
        have V6 := V.tell hD0 hDu gD hDl
        have rD : Rp K (upd G5 D (.lst acc)) (.ref D) (.list (pairQ tags qs)) := .lst upd_same (ra.mono (same_upd gD))
        have sg6 : Same G39 (upd G5 D (.lst acc)) := sgD.trans (same_upd gD)
        refine ⟨upd G5 D (.lst acc), [.list (pairQ tags qs)], .tuple (pairQ tags qs), V6.n.v, .cons rD .nil, rfl, fun v40 G40 H40 n40 r40 => ?_⟩
        have V40 := V6.step n40
        have e2 : dVar 2 ρ13 = some (.str tg) := by
          unfold dVar
          rw [g13]
        refine ⟨G40, ρ13, .str tg, V40.n.v, V40.s, e2, fun v41 G41 H41 n41 r41 => ⟨.ref u, V40.s0, ?_⟩⟩
        cases r41
        have V41 := V40.step n41
        obtain ⟨a5, c5, k1, k2, k3, k4, k5, k6⟩ := V41.takeE (by omega)
        refine ⟨u, 4, a5, b, c5, G41, rfl, k1, k2, k3, by decide, by decide, k4, by omega, fun amt a' c' H42 r0 r1 c0 c1 nn42 hu42 => ?_⟩
        have V42 := k6 _ _ _ _ 1 c0 c1 nn42 hu42
        clear k1 k2 k3 k4 k5 k6
        refine ⟨by show 3 ≤ sizeLine; decide, fun tp o htp ho => ?_⟩
        have nu := Nxt.upd (o := .frz o (.tup [v40, .str tg, .int amt])) V42.n.v htp
        have V43 := V42.step nu
        have V44 := V43.set (i := 7) (v := .ref tp) (d := .tuple [.tuple (pairQ tags qs), .str tg, .int amt]) (by decide) (.tup ⟨o, ho, upd_same⟩ (.cons (r40.mono (n41.g.trans nu.g)) (.cons (.str _) (.cons (.int _) .nil))))
        obtain ⟨ρ15, e14, l15⟩ := TL qs amt (by omega) qok r0 r1
        refine V44.pure e14 fun σ51 G51 H51 U51 s51 => ⟨G51, (U51.none_ l15).cap_le (by push_cast; omega), sg3.trans (n4.g.trans (sg38.trans (n39.g.trans (sg6.trans (n40.g.trans (n41.g.trans (nu.g.trans s51)))))))⟩
  · rintro G3 σ H3 ⟨U3, sg⟩
    exact q G3 H3 U3.n
end
end Od
end
section
set_option maxHeartbeats 8000000
/-! OdLaw: the walk of law. -/
namespace Od
open PySem PySem.Spec PyProof.Rows L2
abbrev s_law : Stmt := topS 64
abbrev N_law : List Str := ["_law_script", "_law_bits_so", "_law_k"]
theorem sc_law : FnScope N_law ["_law_script"] (defScope s_law) := ⟨rfl, rfl, rfl, by decide +kernel, rfl, by decide +kernel, by decide +kernel⟩
def spLaw (K : PySem.W.Frag) : Sp := fun vs H Q _ => ∃ (a : Addr) (ns : List Int), vs = [.ref a] ∧ SqL K H a (ns.map V.int) ∧ ns.length ≤ 1000 ∧ ∀ H', Q (.bl true) H'
def teLaw (K : PySem.W.Frag) : TE := fun σ H Q => tCons (fun σ H Q => tCons (tVar 1) (tCons (liE K (dVar 2)) tNil) σ H fun vs H1 => spBox K vs H1 Q E0) tNil σ H fun vs H1 => spRight K vs H1 Q E0
theorem bools_rep : ∀ n, boolsOf (List.replicate n (PyData.bool true)) = some (List.replicate n true)
  | 0 => rfl
  | n + 1 => by
    rw [List.replicate_succ]
    unfold boolsOf
    rw [bools_rep n]
    rfl
theorem rep_rp {K : PySem.W.Frag} {G : Hp} : ∀ n, RpAll K G (List.replicate n (V.bl true)) (List.replicate n (PyData.bool true))
  | 0 => .nil
  | n + 1 => .cons (.bl true) (rep_rp n)
section
variable {P : Program} {w : World} {K : PySem.W.Frag} {mg : Str → Option Value} {base : Heap}
theorem law_ok {fl : Addr} {fdl : FuncData} (T : Bl mg) (F : Fun K "law" "law" s_law fl fdl) (D_cells : DefOk P w K mg base CX0 1 "_law_cells" ["_law_script", "_law_roof_so"] (spCells K)) (D_box : DefOk P w K mg base CX0 1 "_law_box" ["_law_script", "_law_k"] (spBox K)) (D_right : DefOk P w K mg base CX0 16 "_law_right" ["_law_urn"] (spRight K)) :
    FnOk P w K mg base CX0 17 fl fdl ["_law_script"] (spLaw K) := by
  refine F.ok sc_law (fun vs H Q E ⟨a, ns, h, _⟩ => by rw [h] <;> rfl) fun cdv A outer s H vs Q E hr h => ?_
  refine ⟨_, pss_cons (ps_set (i := 1) sc_law.nd rfl (by first | exact Or.inl rfl | exact Or.inr rfl) (pe_defP D_cells (hr.mono (by decide)) rfl pass0 (pa_cons (pv 0) (pa_cons pe_int pa_nil))))
    (pss_one (ps_ret (pe_callB (call_allD rfl) rfl T.all boot_all (pa_cons
      (pe_lc (g := liG K (Rp K) [2] (tgN 2)) (tt := tYes) (te := teLaw K) rfl sc_law.nd
        (pdi_range rfl T.range (pd_callB call_lenDD rfl T.len boot_len (pda_cons (pd 1) pda_nil))) (blkOk_by (own := [("_law_k", 2)]) (N := N_law) (sc := (defScope s_law)) (by decide +kernel))
        (fun _ _ _ _ _ => (pdg_name (i := 2) sc_law.nd rfl (by first | exact Or.inl rfl | exact Or.inr rfl))) (fun _ _ _ _ _ => pts_nil)
        (fun _ _ _ _ _ => pe_defP D_right hr rfl pass0 (pa_cons (pe_defP D_box (hr.mono (by decide)) rfl pass0 (pa_cons (pv 1) (pa_cons (pd 2) pa_nil))) pa_nil)) (by intro _; rfl)) pa_nil)))), ?_⟩
  obtain ⟨a, ns, rfl, hq, hl, q⟩ := h
  refine ⟨.ref a, rfl, a, ns, rfl, hq, hl, fun p ms H1 h1 hp0 hp1 hm => ?_⟩
  have vg : Same (upd (fun _ => none) p (.lst (ms.map V.int)) : Hp) H1 := fun x u e => by
    by_cases hx : x = p
    · subst hx
      rw [upd_same] at e
      rw [hp1]
      exact e
    · rw [upd_ne hx] at e
      cases e
  have rp : ∀ {G : Hp}, Same (upd (fun _ => none) p (.lst (ms.map V.int)) : Hp) G → Rp K G (.ref p) (.list (ms.map PyData.int)) := fun s => .lst (s _ _ upd_same) (RpAll.ints ms)
  have s1 : Sl K (upd (fun _ => none) p (.lst (ms.map V.int))) ((L2.start N_law [.ref a]).set 1 (some (.ref p))) [none, some (.list (ms.map PyData.int)), none] := (Sl.none_ (n := 3) rfl).add (i := 1) rfl (rp (Same.refl _))
  have er : dRange (dN lenD (dArgs [dVar 1])) [none, some (.list (ms.map PyData.int)), none] = some (rangeOf ms.length) := by
    show (if (0 : Int) ≤ (((ms.map PyData.int).length : Nat) : Int) ∧ (((ms.map PyData.int).length : Nat) : Int) ≤ 1000000 then some (rangeOf (((ms.map PyData.int).length : Nat) : Int).toNat) else none) = _
    rw [List.length_map, if_pos (by omega), Int.toNat_natCast]
  refine ⟨_, _, _, vg, s1, er, fun J G2 H2 n2 wk D hD => ?_⟩
  have gD : G2 D = none := n2.v.free hD
  have hp2 := n2.h _ _ hp1
  have hDp : D ≠ p := fun z => by rw [z, hp2] at hD; cases hD
  have lr : (rangeOf ms.length).length = ms.length := by unfold rangeOf; rw [List.length_map, List.length_range]
  refine lc_hand (fun j G H acc => G = G2 ∧ acc = List.replicate j (V.bl true) ∧ Same G2 H ∧ H D = some (.lst acc)) wk ⟨rfl, rfl, n2.v.trans (same_upd hD), upd_same⟩ ?_ ?_ ?_
  · rintro j G H acc ⟨rfl, _, s, _⟩
    exact ⟨Same.refl _, s⟩
  · rintro j d G H3 acc hd ⟨rfl, rfl, sg, hD3⟩ x G4 H4 n4 rx
    have hj : j < ms.length := by
      have := (List.getElem?_eq_some_iff.mp hd).1
      rwa [lr] at this
    have hdj : d = .int (j : Nat) := by
      unfold rangeOf at hd
      rw [List.getElem?_map, List.getElem?_range hj] at hd
      exact (Option.some.inj hd).symm
    subst hdj
    refine ⟨G4, [none, some (.list (ms.map PyData.int)), none], .int (j : Nat), _, n4.v, ?_, rx, rfl, fun σ5 s5 a5 => ⟨wipe_agr a5 (by decide), ?_⟩⟩
    · exact (Sl.none_ (n := 3) rfl).add (i := 1) rfl (rp (n2.g.trans n4.g))
    have z1 : σ5[1]? = some (some (.ref p)) := by rw [a5.2 1 (by decide)]; rfl
    unfold tYes
    refine iteT ?_
    refine ⟨.ref p, z1, G4, _, .int (j : Nat), n4.v, s5, rfl, fun v6 G6 H6 n6 r6 => ?_⟩
    cases r6
    refine ⟨.ref p, j, G6, ms, rfl, n6.v, rp (n2.g.trans (n4.g.trans n6.g)), hj, by omega, fun u y z H7 h7 hu => ?_⟩
    have sH : Same H4 H7 := n6.h.trans h7
    have gu : G6 u = none := (n6.v.trans h7).free hu
    refine ⟨u, y, z, G6, rfl, (n6.v.trans h7).trans (same_upd hu), gu, upd_same, fun G8 H8 n8 => ?_⟩
    have keep : ∀ {b : Addr} {o : HO}, H4 b = some o → H8 b = some o := fun {b o} e => by
      have e7 := sH _ _ e
      have hb : b ≠ u := ne_of_none e7 hu
      exact n8.h b o (fun z => hb (List.mem_singleton.mp z)) (by rw [upd_ne hb]; exact e7)
    have hD8 := keep (n4.h _ _ hD3)
    refine ⟨_, hD8, by rw [List.length_replicate]; exact small1000 (by omega), G, List.replicate j (V.bl true) ++ [.bl true], rfl, ?_, ?_, upd_same⟩
    · rw [List.replicate_succ']
    · intro b o e
      have hb : b ≠ D := fun z => by rw [z, gD] at e; cases e
      rw [upd_ne hb]
      exact keep (n4.h _ _ (sg _ _ e))
  · rintro G H3 acc ⟨rfl, rfl, sg, hD3⟩
    rw [lr] at hD3
    have gg := same_upd (o := .lst (List.replicate ms.length (V.bl true))) gD
    refine ⟨upd G D (.lst (List.replicate ms.length (V.bl true))), [.list (List.replicate ms.length (.bool true))], .bool true, fun b o e => ?_, .cons (.lst upd_same (rep_rp _)) .nil, ?_, fun v G5 H5 n5 r5 => ?_⟩
    · by_cases hb : b = D
      · subst hb
        rw [upd_same] at e
        rw [hD3]
        exact e
      · rw [upd_ne hb] at e
        exact sg _ _ e
    · show (match boolsOf (List.replicate ms.length (PyData.bool true)) with | some bs => some (PyData.bool (bs.all id)) | none => none) = _
      rw [bools_rep]
      show some (PyData.bool ((List.replicate ms.length true).all id)) = _
      simp
    · cases r5
      exact q H5
end
end Od
end
section
set_option maxHeartbeats 8000000
/-! OdTab: tables over all lists of four bills. -/
namespace Od
open PySem PySem.Spec PyProof.Rows L2
def allR : Nat → List Str → List (List Str)
  | 0, _ => [[]]
  | k + 1, ts => [] :: ts.flatMap fun x => (allR k (ts.filter fun y => decide (y ≠ x))).map (x :: ·)
theorem allR_mem : ∀ {r : List Str} {ts : List Str} {k : Nat}, ts.length ≤ k → r.Nodup → (∀ x ∈ r, x ∈ ts) → r ∈ allR k ts
  | [], ts, 0, _, _, _ => List.mem_singleton.mpr rfl
  | [], ts, k + 1, _, _, _ => List.mem_cons_self
  | x :: r, [], _, _, _, h => by have := h x List.mem_cons_self; cases this
  | x :: r, t :: ts, 0, hk, _, _ => by simp at hk
  | x :: r, t :: ts, k + 1, hk, nd, h => by
    refine List.mem_cons_of_mem _ (List.mem_flatMap.mpr ⟨x, h x List.mem_cons_self, List.mem_map.mpr ⟨r, ?_, rfl⟩⟩)
    obtain ⟨nx, nr⟩ := List.nodup_cons.mp nd
    refine allR_mem ?_ nr fun y hy => List.mem_filter.mpr ⟨h y (List.mem_cons_of_mem _ hy), decide_eq_true fun z => nx (by rw [← z]; exact hy)⟩
    have : ((t :: ts).filter fun y => decide (y ≠ x)).length < (t :: ts).length := List.length_filter_lt_length_iff_exists.mpr ⟨x, h x List.mem_cons_self, by simp⟩
    omega
def rowsN (n : Nat) : List (List Str) := allR 4 (tagL.take (n + 1))
theorem rowsN_mem {n : Nat} (hn : n < 4) {r : List Str} (h : RowOk (tagL.take (n + 1)) r) : r ∈ rowsN n := allR_mem (by rw [(tags_nd n hn).2.2.1]; omega) h.1 h.2
def boolOf : Option PyData → Option Bool
  | some (.bool b) => some b
  | _ => none
end Od
end
section
set_option maxHeartbeats 8000000
/-! OdFix: tupled of what is made of tuples. -/
namespace Od
open PySem PySem.Spec PyProof.Rows L2
/-- tuples in tuples, short -/
def tupOk : Nat → PyData → Bool
  | 0, _ => false
  | n + 1, .tuple ds => decide (ds.length ≤ 1000) && ds.all (tupOk n)
  | _ + 1, .list _ => false
  | _ + 1, .dict _ => false
  | _ + 1, _ => true
theorem lc_fix {f : List PyData → Option PyData} {ρ : DEnv} (hl : ρ.length = 2) : ∀ {ds : List PyData}, (∀ d ∈ ds, f [d] = some d) → lcGo (tgN 1) dYes (dN f (dArgs [dVar 1])) ρ ds = some ds
  | [], _ => rfl
  | d :: ds, h => by
    have e1 : dVar 1 (ρ.set 1 (some d)) = some d := by
      unfold dVar
      rw [List.getElem?_set_self (by omega)]
    have e2 : dN f (dArgs [dVar 1]) (ρ.set 1 (some d)) = some d := by
      unfold dN dArgs
      rw [e1]
      exact h d List.mem_cons_self
    unfold lcGo
    show (match dN f (dArgs [dVar 1]) (ρ.set 1 (some d)) with | some y => _ | none => none) = _
    rw [e2]
    dsimp only
    rw [lc_fix hl fun x hx => h x (List.mem_cons_of_mem _ hx)]
theorem tupled_fix : ∀ {n : Nat} {d : PyData}, tupOk n d = true → f_tupled n [d] = some d
  | 0, _, h => by cases h
  | n + 1, .tuple ds, h => by
    unfold tupOk at h
    rw [Bool.and_eq_true] at h
    have hl := of_decide_eq_true h.1
    have ih : ∀ d ∈ ds, f_tupled n [d] = some d := fun d hd => tupled_fix (List.all_eq_true.mp h.2 d hd)
    have e : dLc (dItems (dVar 0)) (tgN 1) dYes (dN (f_tupled n) (dArgs [dVar 1])) [1] [some (.tuple ds), none] = some (.list ds) := dLc_of (ds := ds) rfl (by omega) (lc_fix rfl ih)
    show (match (match (match (match dLc (dItems (dVar 0)) (tgN 1) dYes (dN (f_tupled n) (dArgs [dVar 1])) [1] [some (.tuple ds), none] with | some d => _ | none => none) with | some ds => tupD ds | none => none) with | some d => some (Out.rt d) | none => none) with | some (.rt d) => some d | some (.nx _) => _ | _ => none) = _
    rw [e]
    rfl
  | n + 1, .none, _ => rfl
  | n + 1, .bool _, _ => rfl
  | n + 1, .int _, _ => rfl
  | n + 1, .str _, _ => rfl
  | n + 1, .list _, h => by cases h
  | n + 1, .dict _, h => by cases h
end Od
end
section
set_option maxHeartbeats 8000000
/-! OdBook: books with rows as variables. -/
namespace Od
open PySem PySem.Spec PyProof.Rows L2
def pairsE (es : Es) : List PyData := es.map fun e => .tuple [e.1, e.2]
theorem pairKv_es : ∀ {ns : List Str} {rows : List (List Str)}, pairKv (pairsE (bookE ns rows)) = some (bookE ns rows)
  | [], rows => by cases rows <;> rfl
  | n :: ns, [] => rfl
  | n :: ns, r :: rows => by
    show (match pairKv (pairsE (bookE ns rows)) with | some es => some ((PyData.str n, PyData.tuple (r.map PyData.str)) :: es) | none => none) = _
    rw [pairKv_es]
    rfl
/-- a comprehension over data that are told one by one -/
theorem lc_filter {α : Type} {f g : α → PyData} {p : α → Bool} {tg : PyData → DEnv → Option DEnv} {tt : DT} {te : DE} {ρ : DEnv} : ∀ {xs : List α}, (∀ x ∈ xs, ∃ ρ1, tg (f x) ρ = some ρ1 ∧ tt ρ1 = some (p x) ∧ (p x = true → te ρ1 = some (g x))) → lcGo tg tt te ρ (xs.map f) = some ((xs.filter p).map g)
  | [], _ => rfl
  | x :: xs, h => by
    obtain ⟨ρ1, h1, h2, h3⟩ := h x List.mem_cons_self
    have ih := lc_filter (xs := xs) fun y hy => h y (List.mem_cons_of_mem _ hy)
    rw [List.map_cons]
    unfold lcGo
    rw [h1]
    dsimp only
    rw [h2]
    cases hp : p x with
    | true =>
      dsimp only
      rw [h3 hp]
      dsimp only
      rw [ih, List.filter_cons_of_pos hp]
      rfl
    | false =>
      dsimp only
      rw [ih, List.filter_cons_of_neg (by rw [hp]; exact Bool.false_ne_true)]
theorem lc_all {α : Type} {f g : α → PyData} {tg : PyData → DEnv → Option DEnv} {te : DE} {ρ : DEnv} {xs : List α} (h : ∀ x ∈ xs, ∃ ρ1, tg (f x) ρ = some ρ1 ∧ te ρ1 = some (g x)) : lcGo tg dYes te ρ (xs.map f) = some (xs.map g) := by
  have := lc_filter (f := f) (g := g) (p := fun _ => true) (tg := tg) (tt := dYes) (te := te) (ρ := ρ) (xs := xs) fun x hx => let ⟨ρ1, h1, h2⟩ := h x hx; ⟨ρ1, h1, rfl, fun _ => h2⟩
  rw [this, List.filter_eq_self.mpr fun _ _ => rfl]
/-- what a def hands back -/
theorem run_of {n : Nat} {t : DS} {ds : List PyData} {d : PyData} (h : t (env0 n ds) = some (.rt d)) : runD n t ds = some d := by
  unfold runD
  rw [h]
theorem run_nx {n : Nat} {t : DS} {ds : List PyData} {ρ : DEnv} (h : t (env0 n ds) = some (.nx ρ)) : runD n t ds = some .none := by
  unfold runD
  rw [h]
theorem dN1 {f : List PyData → Option PyData} {t : DE} {ρ : DEnv} {d : PyData} (h : t ρ = some d) : dN f (dArgs [t]) ρ = f [d] := by
  unfold dN dArgs
  rw [h]
  rfl
theorem dN2 {f : List PyData → Option PyData} {t u : DE} {ρ : DEnv} {d e : PyData} (h : t ρ = some d) (h2 : u ρ = some e) : dN f (dArgs [t, u]) ρ = f [d, e] := by
  unfold dN dArgs
  rw [h]
  dsimp only
  rw [show dArgs [u] ρ = some [e] by unfold dArgs; rw [h2]; rfl]
theorem dN3 {f : List PyData → Option PyData} {t u v : DE} {ρ : DEnv} {d e c : PyData} (h : t ρ = some d) (h2 : u ρ = some e) (h3 : v ρ = some c) : dN f (dArgs [t, u, v]) ρ = f [d, e, c] := by
  unfold dN dArgs
  rw [h]
  dsimp only
  rw [show dArgs [u, v] ρ = some [e, c] by unfold dArgs; rw [h2]; dsimp only; rw [show dArgs [v] ρ = some [c] by unfold dArgs; rw [h3]; rfl]]
theorem d2_of {f : PyData → PyData → Option PyData} {t u : DE} {ρ : DEnv} {d e : PyData} (h : t ρ = some d) (h2 : u ρ = some e) : d2 f t u ρ = f d e := by
  unfold d2
  rw [h]
  dsimp only
  rw [h2]
theorem d1_of {f : PyData → Option PyData} {t : DE} {ρ : DEnv} {d : PyData} (h : t ρ = some d) : d1 f t ρ = f d := by
  unfold d1
  rw [h]
theorem dB_of {t : DE} {ρ : DEnv} {b : Bool} (h : t ρ = some (.bool b)) : dB t ρ = some b := by
  unfold dB
  rw [h]
theorem drop_of {t : DE} {u : DS} {ρ : DEnv} {d : PyData} {o : Option Out} (h : t ρ = some d) (k : u ρ = o) : dSeq (dDrop t) u ρ = o := by
  unfold dSeq dDrop
  rw [h]
  exact k
theorem ifF_of {c : DT} {a b : DS} {ρ : DEnv} (h : c ρ = some false) : dIfS c a b ρ = b ρ := by
  unfold dIfS
  rw [h]
theorem ifT_of {c : DT} {a b : DS} {ρ : DEnv} (h : c ρ = some true) : dIfS c a b ρ = a ρ := by
  unfold dIfS
  rw [h]
theorem next_of {t u : DS} {ρ ρ1 : DEnv} {o : Option Out} (h : t ρ = some (.nx ρ1)) (k : u ρ1 = o) : dSeq t u ρ = o := by
  unfold dSeq
  rw [h]
  exact k
end Od
end
section
set_option maxHeartbeats 8000000
/-! OdBook2: bills, payers, lists_table, list_of of a book. -/
namespace Od
open PySem PySem.Spec PyProof.Rows L2
def bookD (T : PyData) (es : Es) : PyData := .tuple [T, .tuple (pairsE es)]
theorem tupOk_strs : ∀ (l : List Str) (n : Nat), (l.map PyData.str).all (tupOk (n + 1)) = true
  | [], _ => rfl
  | x :: r, n => by
    rw [List.map_cons, List.all_cons, tupOk_strs r n]
    rfl
theorem tupOk_strT {l : List Str} (h : l.length ≤ 1000) (n : Nat) : tupOk (n + 2) (strT l) = true := by
  show (decide ((l.map PyData.str).length ≤ 1000) && (l.map PyData.str).all (tupOk (n + 1))) = true
  rw [tupOk_strs, List.length_map, decide_eq_true h]
  rfl
theorem tupOk_book {ns : List Str} {rows : List (List Str)} (hn : ns.length ≤ 1000) (hr : ∀ r ∈ rows, r.length ≤ 1000) : tupOk 7 (.tuple (pairsE (bookE ns rows))) = true := by
  have h : ∀ (ns : List Str) (rows : List (List Str)), (∀ r ∈ rows, r.length ≤ 1000) → (pairsE (bookE ns rows)).all (tupOk 6) = true ∧ (pairsE (bookE ns rows)).length ≤ ns.length := by
    intro ns
    induction ns with
    | nil => intro rows _; cases rows <;> exact ⟨rfl, Nat.le_refl _⟩
    | cons n ns ih =>
      intro rows hr
      cases rows with
      | nil => exact ⟨rfl, Nat.zero_le _⟩
      | cons r rows =>
        obtain ⟨h1, h2⟩ := ih rows fun s hs => hr s (List.mem_cons_of_mem _ hs)
        refine ⟨?_, Nat.succ_le_succ h2⟩
        show (tupOk 6 (.tuple [.str n, strT r]) && (pairsE (bookE ns rows)).all (tupOk 6)) = true
        rw [h1, Bool.and_true]
        show (decide (2 ≤ 1000) && (tupOk 5 (.str n) && (tupOk 5 (strT r) && true))) = true
        rw [tupOk_strT (hr r List.mem_cons_self) 3]
        rfl
  obtain ⟨h1, h2⟩ := h ns rows hr
  show (decide ((pairsE (bookE ns rows)).length ≤ 1000) && (pairsE (bookE ns rows)).all (tupOk 6)) = true
  rw [h1, decide_eq_true (by omega)]
  rfl
theorem bills_book {T : PyData} {es : Es} (h : tupOk 7 T = true) : m_bills [bookD T es] = some T :=
  run_of (ret_of (by rw [dN1 (d := T) rfl]; exact tupled_fix h))
theorem keys_book : ∀ {ns : List Str} {rows : List (List Str)}, rows.length = ns.length → (bookE ns rows).map (·.1) = ns.map PyData.str
  | [], [], _ => rfl
  | n :: ns, r :: rows, h => congrArg (PyData.str n :: ·) (keys_book (Nat.succ.inj h))
  | [], _ :: _, h => by cases h
  | _ :: _, [], h => by cases h
theorem payers_book {T : PyData} {ns : List Str} {rows : List (List Str)} (hl : rows.length = ns.length) (hn : ns.length ≤ 1000) : m_payers [bookD T (bookE ns rows)] = some (strT ns) := by
  have e : dLc (dItems (d2 ixD (dVar 0) (dC (.int 1)))) (tgQ [1, 2]) dYes (dVar 1) [1, 2] [some (bookD T (bookE ns rows)), none, none] = some (.list ((bookE ns rows).map (·.1))) :=
    dLc_of (ds := pairsE (bookE ns rows)) rfl (by unfold pairsE; rw [List.length_map, bookE_len hl]; omega) (lc_all (f := fun e : PyData × PyData => .tuple [e.1, e.2]) (g := fun e => e.1) fun e _ => ⟨_, rfl, rfl⟩)
  rw [keys_book hl] at e
  exact run_of (ret_of ((dN1 (f := tupD) e).trans rfl))
/-- the books of the law -/
structure BookOk (n m : Nat) (rows : List (List Str)) : Prop where
  hn : n < 4
  hm : m < 3
  len : rows.length = m + 1
  ok : ∀ r ∈ rows, RowOk (tagL.take (n + 1)) r
def tagsN (n : Nat) : List Str := tagL.take (n + 1)
def namesN (m : Nat) : List Str := nameL.take (m + 1)
def bk (m : Nat) (rows : List (List Str)) : Es := bookE (namesN m) rows
theorem three {α : Type} {m : Nat} {l : List α} (hm : m < 3) (hl : l.length = m + 1) : (m = 0 ∧ ∃ a, l = [a]) ∨ (m = 1 ∧ ∃ a b, l = [a, b]) ∨ (m = 2 ∧ ∃ a b c, l = [a, b, c]) := by
  match m, l, hl with
  | 0, [a], _ => exact .inl ⟨rfl, a, rfl⟩
  | 1, [a, b], _ => exact .inr (.inl ⟨rfl, a, b, rfl⟩)
  | 2, [a, b, c], _ => exact .inr (.inr ⟨rfl, a, b, c, rfl⟩)
theorem merge_bk {m : Nat} {rows : List (List Str)} (hm : m < 3) (hl : rows.length = m + 1) : mergeE [] (bk m rows) = bk m rows := by
  rcases three hm hl with ⟨rfl, a, rfl⟩ | ⟨rfl, a, b, rfl⟩ | ⟨rfl, a, b, c, rfl⟩ <;> rfl
theorem row_len {n : Nat} (hn : n < 4) {r : List Str} (h : RowOk (tagL.take (n + 1)) r) : r.length ≤ 4 := by
  have h1 : r ∈ rowsN n := rowsN_mem hn h
  have h2 : ∀ n, n < 4 → ∀ r ∈ rowsN n, r.length ≤ 4 := by decide +kernel
  exact h2 n hn r h1
theorem table_bk {n m : Nat} {rows : List (List Str)} (B : BookOk n m rows) (T : PyData) : m_lists_table [bookD T (bk m rows)] = some (.dict (bk m rows)) := by
  have hl : (namesN m).length = m + 1 := (names_nd m B.hm).2
  have h := tupled_fix (tupOk_book (ns := namesN m) (rows := rows) (by rw [hl]; have := B.hm; omega) fun r hr => by have := row_len B.hn (B.ok r hr); omega)
  refine run_of (ret_of ?_)
  rw [dN1 (d := .tuple (pairsE (bk m rows))) (by rw [dN1 (d := .tuple (pairsE (bk m rows))) rfl]; exact h)]
  show (if (pairsE (bk m rows)).length ≤ 1000000 then match pairKv (pairsE (bk m rows)) with | some es => some (PyData.dict (mergeE [] es)) | none => none else none) = _
  rw [if_pos (by unfold pairsE bk; rw [List.length_map, bookE_len (by rw [B.len, hl]), hl]; have := B.hm; omega), show pairKv (pairsE (bk m rows)) = some (bk m rows) from pairKv_es]
  show some (PyData.dict (mergeE [] (bk m rows))) = _
  rw [merge_bk B.hm B.len]
end Od
end
section
set_option maxHeartbeats 8000000
/-! OdEq: the lists of the law, and when two of them are equal. -/
namespace Od
open PySem PySem.Spec PyProof.Rows L2
abbrev R4 (r : List Str) : Prop := RowOk tagL r
theorem R4.of {n : Nat} {r : List Str} (h : RowOk (tagL.take (n + 1)) r) : R4 r := ⟨h.1, fun x hx => List.mem_of_mem_take (h.2 x hx)⟩
theorem R4.oks {r : List Str} (h : R4 r) : ∀ x ∈ r, PyData.strOk x = true := fun x hx => (tags_nd 3 (by decide)).2.1 x (h.2 x hx)
theorem R4.sub {r s : List Str} (h : R4 r) (hs : s.Sublist r) : R4 s := ⟨hs.nodup h.1, fun x hx => h.2 x (hs.subset hx)⟩
theorem R4.mem {r : List Str} (h : R4 r) : r ∈ rowsN 3 := rowsN_mem (n := 3) (by decide) h
theorem R4.len {r : List Str} (h : R4 r) : r.length ≤ 4 := row_len (n := 3) (by decide) h
theorem eqv_all : ∀ (a b : List Str), PyData.eqvAll (a.map PyData.str) (b.map PyData.str) = decide (a = b)
  | [], [] => rfl
  | [], _ :: _ => rfl
  | _ :: _, [] => rfl
  | x :: a, y :: b => by
    rw [List.map_cons, List.map_cons, PyData.eqvAll, PyData.eqv, eqv_all a b]
    by_cases h : x = y
    · subst h
      by_cases h2 : a = b
      · subst h2; simp
      · simp [h2]
    · simp [h]
theorem eqv_strT (a b : List Str) : PyData.eqv (strT a) (strT b) = decide (a = b) := by
  unfold strT
  rw [PyData.eqv, eqv_all]
theorem lay_all : ∀ {a : List Str}, (∀ x ∈ a, PyData.strOk x = true) → PyData.canLayAll0 (a.map PyData.str) = true
  | [], _ => by rw [List.map_nil, PyData.canLayAll0]
  | x :: a, h => by
    rw [List.map_cons, PyData.canLayAll0, PyData.canLay0, h x List.mem_cons_self, lay_all fun y hy => h y (List.mem_cons_of_mem _ hy)]
    rfl
theorem depth_all : ∀ (a : List Str), PyData.depthAll (a.map PyData.str) = 0
  | [] => by rw [List.map_nil, PyData.depthAll]
  | x :: a => by
    rw [List.map_cons, PyData.depthAll, PyData.depth, depth_all a]
    rfl
theorem shaped_strT {a : List Str} (h : ∀ x ∈ a, PyData.strOk x = true) : SeqAt.shaped (strT a) = true := by
  unfold SeqAt.shaped strT
  rw [PyData.canLay0, lay_all h, PyData.depth, depth_all]
  rfl
theorem eqD_strT {a b : List Str} (ha : ∀ x ∈ a, PyData.strOk x = true) (hb : ∀ x ∈ b, PyData.strOk x = true) : eqD (strT a) (strT b) = some (.bool (decide (a = b))) := by
  unfold eqD
  rw [shaped_strT ha, shaped_strT hb, eqv_strT]
  rfl
theorem neD_strT {a b : List Str} (ha : ∀ x ∈ a, PyData.strOk x = true) (hb : ∀ x ∈ b, PyData.strOk x = true) : neD (strT a) (strT b) = some (.bool (!decide (a = b))) := by
  unfold neD
  rw [shaped_strT ha, shaped_strT hb, eqv_strT]
  rfl
theorem neD_R4 {a b : List Str} (ha : R4 a) (hb : R4 b) : neD (strT a) (strT b) = some (.bool (!decide (a = b))) := neD_strT ha.oks hb.oks
/-- x in a row -/
theorem flat_strs (a : List Str) : (a.map PyData.str).all flatD = true := by
  rw [List.all_map]
  exact List.all_eq_true.mpr fun _ _ => rfl
theorem inF_strs (x : Str) : ∀ (a : List Str), inF (.str x) (a.map PyData.str) = decide (x ∈ a)
  | [] => rfl
  | y :: a => by
    have ih := inF_strs x a
    unfold inF at ih ⊢
    rw [List.map_cons, List.any_cons, ih]
    show (y == x || decide (x ∈ a)) = _
    by_cases h : y = x
    · subst h; simp
    · have h2 : x ≠ y := fun z => h z.symm
      simp [h, h2]
theorem inD_strT (x : Str) (a : List Str) : inD (.str x) (strT a) = some (.bool (decide (x ∈ a))) := by
  show (if flatD (.str x) && (a.map PyData.str).all flatD then some (PyData.bool (inF (.str x) (a.map PyData.str))) else none) = _
  rw [flat_strs, inF_strs]
  rfl
theorem inD_strL (x : Str) (a : List Str) : inD (.str x) (.list (a.map PyData.str)) = some (.bool (decide (x ∈ a))) := by
  show (if flatD (.str x) && (a.map PyData.str).all flatD then some (PyData.bool (inF (.str x) (a.map PyData.str))) else none) = _
  rw [flat_strs, inF_strs]
  rfl
theorem notInD_strT (x : Str) (a : List Str) : notInD (.str x) (strT a) = some (.bool (!decide (x ∈ a))) := by
  show (if flatD (.str x) && (a.map PyData.str).all flatD then some (PyData.bool (!inF (.str x) (a.map PyData.str))) else none) = _
  rw [flat_strs, inF_strs]
  rfl
/-- sorted(row): as long as the row -/
def sortLen (r : List Str) : Bool := match sortL (r.map PyData.str) with
  | some (.list ds) => decide (ds.length = r.length)
  | _ => false
theorem sort_tab : (rowsN 3).all sortLen = true := by decide +kernel
theorem sort_R4 {r : List Str} (h : R4 r) : ∃ ds, sortL (r.map PyData.str) = some (.list ds) ∧ ds.length = r.length := by
  have q := List.all_eq_true.mp sort_tab r h.mem
  unfold sortLen at q
  split at q
  · rename_i ds e
    exact ⟨ds, e, of_decide_eq_true q⟩
  · cases q
theorem tup2_of {t u : DE} {ρ : DEnv} {d e : PyData} (h : t ρ = some d) (h2 : u ρ = some e) : dTup [t, u] ρ = some (.tuple [d, e]) := by
  unfold dTup dArgs
  rw [h]
  dsimp only
  rw [show dArgs [u] ρ = some [e] by unfold dArgs; rw [h2]; rfl]
theorem tup1_of {t : DE} {ρ : DEnv} {d : PyData} (h : t ρ = some d) : dTup [t] ρ = some (.tuple [d]) := by
  unfold dTup dArgs
  rw [h]
  rfl
theorem lst1_of {t : DE} {ρ : DEnv} {d : PyData} (h : t ρ = some d) : dLst [t] ρ = some (.list [d]) := by
  unfold dLst dArgs
  rw [h]
  rfl
theorem lst2_of {t u : DE} {ρ : DEnv} {d e : PyData} (h : t ρ = some d) (h2 : u ρ = some e) : dLst [t, u] ρ = some (.list [d, e]) := by
  unfold dLst dArgs
  rw [h]
  dsimp only
  rw [show dArgs [u] ρ = some [e] by unfold dArgs; rw [h2]; rfl]
theorem tup3_of {t u v : DE} {ρ : DEnv} {d e c : PyData} (h : t ρ = some d) (h2 : u ρ = some e) (h3 : v ρ = some c) : dTup [t, u, v] ρ = some (.tuple [d, e, c]) := by
  unfold dTup dArgs
  rw [h]
  dsimp only
  rw [show dArgs [u, v] ρ = some [e, c] by unfold dArgs; rw [h2]; dsimp only; rw [show dArgs [v] ρ = some [c] by unfold dArgs; rw [h3]; rfl]]
theorem lst3_of {t u v : DE} {ρ : DEnv} {d e c : PyData} (h : t ρ = some d) (h2 : u ρ = some e) (h3 : v ρ = some c) : dLst [t, u, v] ρ = some (.list [d, e, c]) := by
  unfold dLst dArgs
  rw [h]
  dsimp only
  rw [show dArgs [u, v] ρ = some [e, c] by unfold dArgs; rw [h2]; dsimp only; rw [show dArgs [v] ρ = some [c] by unfold dArgs; rw [h3]; rfl]]
end Od
end
section
set_option maxHeartbeats 8000000
/-! OdAgr: agree and _law_fit say the same of two lists, either way round. -/
namespace Od
open PySem PySem.Spec PyProof.Rows L2
def ixOf (x : Str) : List Str → Nat
  | [] => 0
  | y :: r => if y = x then 0 else ixOf x r + 1
theorem idxS_of {x : Str} : ∀ {a : List Str} (i : Nat), x ∈ a → idxS (a.map PyData.str) x i = some (i + ixOf x a)
  | [], _, h => by cases h
  | y :: r, i, h => by
    rw [List.map_cons, idxS, ixOf]
    by_cases c : y = x
    · rw [if_pos c, if_pos c] <;> rfl
    · rw [if_neg c, if_neg c, idxS_of (i + 1) (by
        rcases List.mem_cons.mp h with h | h
        · exact absurd h.symm c
        · exact h)]
      congr 1
      omega
theorem ixOf_lt {x : Str} : ∀ {a : List Str}, x ∈ a → ixOf x a < a.length
  | [], h => by cases h
  | y :: r, h => by
    rw [ixOf, List.length_cons]
    by_cases c : y = x
    · rw [if_pos c]; omega
    · rw [if_neg c]
      have := ixOf_lt (a := r) (by
        rcases List.mem_cons.mp h with h | h
        · exact absurd h.symm c
        · exact h)
      omega
theorem index_strT {a : List Str} {x : Str} (h : x ∈ a) : indexD (strT a) (.str x) = some (.int (ixOf x a : Nat)) := by
  unfold indexD strT
  have e1 : ∀ p : PyData → Bool, (∀ x, p (.str x) = true) → (a.map PyData.str).all p = true := fun p hp => by
    rw [List.all_map]
    exact List.all_eq_true.mpr fun x _ => hp x
  dsimp only
  rw [e1 _ fun _ => rfl, idxS_of 0 h, Nat.zero_add]
theorem cut_hi (a : List Str) {k : Nat} (h : k ≤ a.length) : cutL (a.map PyData.str) none (some (k : Int)) = (a.take k).map PyData.str := by
  unfold cutL
  rw [HT.sIx_none, HT.sIx_nat, List.drop_zero, Nat.sub_zero, List.length_map, Nat.min_eq_left h, List.map_take]
theorem cut_lo (a : List Str) {k : Nat} (h : k ≤ a.length) : cutL (a.map PyData.str) (some (k : Int)) none = (a.drop k).map PyData.str := by
  unfold cutL
  rw [HT.sIx_none, HT.sIx_nat, List.length_map, Nat.min_eq_left h, List.map_drop]
  refine List.take_of_length_le ?_
  rw [List.length_drop, List.length_map]
  omega
def restL (a b : List Str) (x : Str) : List Str := (a.drop (ixOf x a + 1)).filter fun y => !decide (y ∈ b.take (ixOf x b))
theorem restL_sub (a b : List Str) (x : Str) : (restL a b x).Sublist a := List.filter_sublist.trans (List.drop_sublist _ _)
/-- a filter of texts by one test -/
theorem lc_strs {i : Nat} {tt : DT} {ρ : DEnv} {p : Str → Bool} (a : List Str) (hi : i < ρ.length) (h : ∀ x ∈ a, tt (ρ.set i (some (.str x))) = some (p x)) : lcGo (tgN i) tt (dVar i) ρ (a.map PyData.str) = some ((a.filter p).map PyData.str) :=
  lc_filter (f := PyData.str) (g := PyData.str) fun x hx => ⟨_, rfl, h x hx, fun _ => by unfold dVar; rw [List.getElem?_set_self hi]⟩
theorem rest_of {a b : List Str} {x : Str} (ha : x ∈ a) (hb : x ∈ b) (la : a.length ≤ 1000) : m_rest_of [strT a, strT b, .str x] = some (strT (restL a b x)) := by
  have i1 := ixOf_lt ha
  have i2 := ixOf_lt hb
  have e1 : dSl (dVar 1) dNo (dPart (d2 indexD (dVar 1) (dVar 2))) [some (strT a), some (strT b), some (.str x), none, none] = some (strT (b.take (ixOf x b))) := by
    show (match dPart (d2 indexD (dVar 1) (dVar 2)) [some (strT a), some (strT b), some (.str x), none, none] with | some h => slD none h (strT b) | none => none) = _
    have e : dPart (d2 indexD (dVar 1) (dVar 2)) [some (strT a), some (strT b), some (.str x), none, none] = some (some ((ixOf x b : Nat) : Int)) := by
      show (match indexD (strT b) (.str x) with | some (.int i) => some (some i) | _ => none) = _
      rw [index_strT hb]
    rw [e]
    show some (PyData.tuple (cutL (b.map PyData.str) none (some ((ixOf x b : Nat) : Int)))) = _
    rw [cut_hi b (by omega)] <;> rfl
  refine run_of (seq_asg e1 (ret_of ?_))
  show dN tupD _ [some (strT a), some (strT b), some (.str x), some (strT (b.take (ixOf x b))), none] = _
  generalize hh : b.take (ixOf x b) = hid
  have e2 : dItems (dSl (dVar 0) (dPart (d2 addD (d2 indexD (dVar 0) (dVar 2)) (dC (.int 1)))) dNo) [some (strT a), some (strT b), some (.str x), some (strT hid), none] = some ((a.drop (ixOf x a + 1)).map PyData.str) := by
    have e : dPart (d2 addD (d2 indexD (dVar 0) (dVar 2)) (dC (.int 1))) [some (strT a), some (strT b), some (.str x), some (strT hid), none] = some (some ((ixOf x a + 1 : Nat) : Int)) := by
      show (match (match indexD (strT a) (.str x) with | some d => addD d (.int 1) | none => none) with | some (.int i) => some (some i) | _ => none) = _
      rw [index_strT ha]
      rfl
    unfold dItems
    have e3 : dSl (dVar 0) (dPart (d2 addD (d2 indexD (dVar 0) (dVar 2)) (dC (.int 1)))) dNo [some (strT a), some (strT b), some (.str x), some (strT hid), none] = some (strT (a.drop (ixOf x a + 1))) := by
      show (match dPart (d2 addD (d2 indexD (dVar 0) (dVar 2)) (dC (.int 1))) [some (strT a), some (strT b), some (.str x), some (strT hid), none] with | some l => slD l none (strT a) | none => none) = _
      rw [e]
      show some (PyData.tuple (cutL (a.map PyData.str) (some ((ixOf x a + 1 : Nat) : Int)) none)) = _
      rw [cut_lo a (by omega)] <;> rfl
    rw [e3] <;> rfl
  rw [dN1 (d := .list ((restL a b x).map PyData.str)) (dLc_of e2 (by rw [List.length_map, List.length_drop]; omega) ?_)]
  · rfl
  · unfold restL
    rw [hh]
    refine lc_strs _ (by show 4 < 5; decide) fun y _ => ?_
    show dB (d2 notInD (dVar 4) (dVar 3)) [some (strT a), some (strT b), some (.str x), some (strT hid), some (.str y)] = _
    refine dB_of ?_
    show notInD (.str y) (strT hid) = _
    exact notInD_strT y hid
theorem law_rest_is : m_law_rest = m_rest_of := rfl
/-- what agree says -/
def fitB (a b : List Str) : Bool := (a.filter fun x => decide (x ∈ b)).all fun x => decide (restL a b x = restL b a x)
theorem fitB_iff {a b : List Str} : fitB a b = true ↔ ∀ x, x ∈ a → x ∈ b → restL a b x = restL b a x := by
  unfold fitB
  rw [List.all_eq_true]
  constructor
  · intro h x ha hb
    exact of_decide_eq_true (h x (List.mem_filter.mpr ⟨ha, decide_eq_true hb⟩))
  · intro h x hx
    obtain ⟨h1, h2⟩ := List.mem_filter.mp hx
    exact decide_eq_true (h x h1 (of_decide_eq_true h2))
theorem fitB_symm (a b : List Str) : fitB a b = fitB b a := by
  rw [Bool.eq_iff_iff, fitB_iff, fitB_iff]
  exact ⟨fun h x hb ha => (h x ha hb).symm, fun h x ha hb => (h x hb ha).symm⟩
theorem ne_rest {a b : List Str} (ha : R4 a) (hb : R4 b) {x : Str} (h1 : x ∈ a) (h2 : x ∈ b) : neD (strT (restL a b x)) (strT (restL b a x)) = some (.bool (!decide (restL a b x = restL b a x))) :=
  neD_R4 (ha.sub (restL_sub a b x)) (hb.sub (restL_sub b a x))
theorem tupled_strT {a : List Str} (h : a.length ≤ 1000) : m_tupled [strT a] = some (strT a) := tupled_fix (n := 7) (tupOk_strT h 5)
theorem odd_bills_of {a b : List Str} (ha : R4 a) (hb : R4 b) : ∃ ds, m_odd_bills [strT a, strT b] = some (.tuple ds) ∧ decide (ds.length = 0) = fitB a b := by
  have la := ha.len
  have lb := hb.len
  obtain ⟨ds, e_s, l_s⟩ := sort_R4 (r := (a.filter fun x => decide (x ∈ b)).filter fun x => !decide (restL a b x = restL b a x)) (ha.sub (List.filter_sublist.trans List.filter_sublist))
  refine ⟨ds, ?_, ?_⟩
  · have e1 : dTup [dN m_tupled (dArgs [dVar 0]), dN m_tupled (dArgs [dVar 1])] [some (strT a), some (strT b), none, none, none, none] = some (.tuple [strT a, strT b]) := by
      have q1 : dN m_tupled (dArgs [dVar 0]) [some (strT a), some (strT b), none, none, none, none] = some (strT a) := tupled_strT (by omega)
      have q2 : dN m_tupled (dArgs [dVar 1]) [some (strT a), some (strT b), none, none, none, none] = some (strT b) := tupled_strT (by omega)
      exact tup2_of q1 q2
    refine run_of (next_of (ρ1 := [some (strT a), some (strT b), none, some (strT a), some (strT b), none]) ?_ (seq_asg (d := .list ((a.filter fun x => decide (x ∈ b)).map PyData.str)) ?_ (ret_of ?_)))
    · show dAsgG (tgT [3, 4]) _ [some (strT a), some (strT b), none, none, none, none] = _
      unfold dAsgG
      rw [e1] <;> rfl
    · refine dLc_of (ds := a.map PyData.str) rfl (by rw [List.length_map]; omega) (lc_strs _ (by show 5 < 6; decide) fun x _ => ?_)
      exact dB_of (inD_strT x b)
    · show dN tupD _ [some (strT a), some (strT b), some (.list ((a.filter fun x => decide (x ∈ b)).map PyData.str)), some (strT a), some (strT b), none] = _
      generalize hsh : (a.filter fun x => decide (x ∈ b)) = sh at e_s
      have hm : ∀ x ∈ sh, x ∈ a ∧ x ∈ b := fun x hx => by
        rw [← hsh] at hx
        exact ⟨(List.mem_filter.mp hx).1, of_decide_eq_true (List.mem_filter.mp hx).2⟩
      have hl : sh.length ≤ 4 := by
        rw [← hsh]
        exact Nat.le_trans (List.length_filter_le _ _) la
      rw [dN1 (d := .list ds) ?_]
      · rfl
      · rw [dN1 (d := .list ((sh.filter fun x => !decide (restL a b x = restL b a x)).map PyData.str)) ?_]
        · exact e_s
        · refine dLc_of (ds := sh.map PyData.str) rfl (by rw [List.length_map]; omega) (lc_strs _ (by show 5 < 6; decide) fun x hx => ?_)
          obtain ⟨h1, h2⟩ := hm x hx
          refine dB_of ?_
          rw [d2_of (d := strT (restL a b x)) (e := strT (restL b a x))]
          · exact ne_rest ha hb h1 h2
          · exact rest_of h1 h2 (by omega)
          · exact rest_of h2 h1 (by omega)
  · rw [l_s, Bool.eq_iff_iff, decide_eq_true_iff, fitB_iff, List.length_eq_zero_iff, List.filter_eq_nil_iff]
    constructor
    · intro h x h1 h2
      have := h x (List.mem_filter.mpr ⟨h1, decide_eq_true h2⟩)
      simpa using this
    · intro h x hx
      have := h x (List.mem_filter.mp hx).1 (of_decide_eq_true (List.mem_filter.mp hx).2)
      simp [this]
theorem len0 (ds : List PyData) : eqD (.int (ds.length : Int)) (.int 0) = some (.bool (decide (ds.length = 0))) := by
  show (if SeqAt.shaped (.int (ds.length : Int)) && SeqAt.shaped (.int 0) then some (PyData.bool (PyData.eqv (.int (ds.length : Int)) (.int 0))) else none) = _
  rw [if_pos (by rfl), PyData.eqv]
  congr 2
  by_cases h : ds.length = 0
  · rw [h]; rfl
  · rw [decide_eq_false h]
    exact beq_eq_false_iff_ne.mpr (by omega)
theorem agree_of {a b : List Str} (ha : R4 a) (hb : R4 b) : m_agree [strT a, strT b] = some (.bool (fitB a b)) := by
  obtain ⟨ds, e, h⟩ := odd_bills_of ha hb
  refine run_of (ret_of ?_)
  rw [d2_of (d := .int (ds.length : Int)) (e := .int 0) _ rfl, len0, h]
  rw [dN1 (d := .tuple ds) e]
  rfl
/-- a loop that ends early or goes on -/
theorem for_all {i : Nat} {tb : DS} {d0 : PyData} {p : Str → Bool} : ∀ (a : List Str) {ρ : DEnv}, i < ρ.length → (∀ x ∈ a, ∀ ρ' : DEnv, ρ'.length = ρ.length → (∀ j, j ≠ i → ρ'[j]? = ρ[j]?) → tb (ρ'.set i (some (.str x))) = if p x then some (.nx (ρ'.set i (some (.str x)))) else some (.rt d0)) →
    ∃ ρ2 : DEnv, forGo (tgN i) tb (a.map PyData.str) ρ = if a.all p then some (.nx ρ2) else some (.rt d0)
  | [], ρ, _, _ => ⟨ρ, rfl⟩
  | x :: a, ρ, hi, h => by
    have h1 := h x List.mem_cons_self ρ rfl fun _ _ => rfl
    rw [List.map_cons, forGo, List.all_cons]
    have e0 : tgN i (.str x) ρ = some (ρ.set i (some (.str x))) := rfl
    rw [e0]
    dsimp only
    rw [h1]
    cases hp : p x with
    | false => exact ⟨ρ, by simp⟩
    | true =>
      obtain ⟨ρ2, e⟩ := for_all (i := i) (tb := tb) (d0 := d0) (p := p) a (ρ := ρ.set i (some (.str x))) (by rw [List.length_set]; exact hi) fun y hy ρ' hl hj => h y (List.mem_cons_of_mem _ hy) ρ' (by rw [hl, List.length_set]) fun j hne => by
        rw [hj j hne, List.getElem?_set_ne (Ne.symm hne)]
      exact ⟨ρ2, by simpa using e⟩
theorem fit_all (a b : List Str) : (a.all fun x => !(decide (x ∈ b) && !decide (restL a b x = restL b a x))) = fitB a b := by
  rw [Bool.eq_iff_iff, fitB_iff, List.all_eq_true]
  constructor
  · intro h x h1 h2
    have := h x h1
    simpa [h2] using this
  · intro h x h1
    by_cases h2 : x ∈ b
    · simp [h x h1 h2]
    · simp [h2]
def fitTb : DS := dIfS (dAndT (dB (d2 inD (dVar 2) (dVar 1))) (dB (d2 neD (dN m_law_rest (dArgs [dVar 0, dVar 1, dVar 2])) (dN m_law_rest (dArgs [dVar 1, dVar 0, dVar 2]))))) (dRet (dC (.bool false))) dNext
theorem fit_step {a b : List Str} (ha : R4 a) (hb : R4 b) {x : Str} (hx : x ∈ a) : fitTb [some (strT a), some (strT b), some (.str x)] = if !(decide (x ∈ b) && !decide (restL a b x = restL b a x)) then some (.nx [some (strT a), some (strT b), some (.str x)]) else some (.rt (.bool false)) := by
  have la := ha.len
  have lb := hb.len
  have c1 : dB (d2 inD (dVar 2) (dVar 1)) [some (strT a), some (strT b), some (.str x)] = some (decide (x ∈ b)) := dB_of (inD_strT x b)
  by_cases h2 : x ∈ b
  · have c2 : dB (d2 neD (dN m_law_rest (dArgs [dVar 0, dVar 1, dVar 2])) (dN m_law_rest (dArgs [dVar 1, dVar 0, dVar 2]))) [some (strT a), some (strT b), some (.str x)] = some (!decide (restL a b x = restL b a x)) := by
      refine dB_of ?_
      rw [d2_of (d := strT (restL a b x)) (e := strT (restL b a x))]
      · exact ne_rest ha hb hx h2
      · exact rest_of hx h2 (by omega)
      · exact rest_of h2 hx (by omega)
    unfold fitTb dIfS dAndT
    rw [c1, decide_eq_true h2]
    dsimp only
    rw [c2]
    by_cases h3 : restL a b x = restL b a x
    · rw [decide_eq_true h3] <;> rfl
    · rw [decide_eq_false h3] <;> rfl
  · unfold fitTb dIfS dAndT
    rw [c1, decide_eq_false h2] <;> rfl
theorem fit_of {a b : List Str} (ha : R4 a) (hb : R4 b) : m_law_fit [strT a, strT b] = some (.bool (fitB a b)) := by
  have key : ∀ x ∈ a, ∀ ρ' : DEnv, ρ'.length = [some (strT a), some (strT b), none].length → (∀ j, j ≠ 2 → ρ'[j]? = [some (strT a), some (strT b), none][j]?) → fitTb (ρ'.set 2 (some (.str x))) = if !(decide (x ∈ b) && !decide (restL a b x = restL b a x)) then some (.nx (ρ'.set 2 (some (.str x)))) else some (.rt (.bool false)) := by
    intro x hx ρ' hl hj
    have g0 : ρ'[0]? = some (some (strT a)) := hj 0 (by decide)
    have g1 : ρ'[1]? = some (some (strT b)) := hj 1 (by decide)
    match ρ', hl, g0, g1 with
    | [_, _, z], _, rfl, rfl => exact fit_step ha hb hx
  obtain ⟨ρ2, e⟩ := for_all (i := 2) (tb := fitTb) (d0 := .bool false) (p := fun x => !(decide (x ∈ b) && !decide (restL a b x = restL b a x))) a (ρ := [some (strT a), some (strT b), none]) (by show 2 < 3; decide) key
  have e0 : dFor (dItems (dVar 0)) (tgN 2) fitTb [some (strT a), some (strT b), none] = if a.all (fun x => !(decide (x ∈ b) && !decide (restL a b x = restL b a x))) then some (.nx ρ2) else some (.rt (.bool false)) := e
  rw [fit_all] at e0
  unfold m_law_fit runD
  show (match dSeq (dFor (dItems (dVar 0)) (tgN 2) fitTb) (dRet (dC (.bool true))) [some (strT a), some (strT b), none] with | some (.rt d) => some d | some (.nx _) => some .none | _ => none) = _
  cases h : fitB a b with
  | true =>
    rw [h] at e0
    rw [next_of (o := some (.rt (.bool true))) e0 rfl]
  | false =>
    rw [h] at e0
    unfold dSeq
    rw [e0] <;> rfl
end Od
end
section
set_option maxHeartbeats 8000000
/-! OdStp: fewest_steps and _law_steps, by a table. -/
namespace Od
open PySem PySem.Spec PyProof.Rows L2
def intOf : Option PyData → Option Int
  | some (.int i) => some i
  | _ => none
theorem intOf_eq : ∀ {o : Option PyData} {i : Int}, intOf o = some i → o = some (.int i)
  | some (.int i), _, h => by cases h; rfl
  | some .none, _, h => by cases h
  | some (.bool _), _, h => by cases h
  | some (.str _), _, h => by cases h
  | some (.list _), _, h => by cases h
  | some (.tuple _), _, h => by cases h
  | some (.dict _), _, h => by cases h
  | none, _, h => by cases h
def stepsI (a b : List Str) : Int := (intOf (m_fewest_steps [strT a, strT b])).getD 0
def stepB (a b : List Str) : Bool := match intOf (m_fewest_steps [strT a, strT b]) with
  | some i => match intOf (m_law_steps [strT a, strT b]) with
    | some j => decide (i = j)
    | none => false
  | none => false
theorem step_t0 : (((rowsN 3).drop 0).take 5).all (fun a => (rowsN 3).all (stepB a)) = true := by decide +kernel
theorem step_t1 : (((rowsN 3).drop 5).take 5).all (fun a => (rowsN 3).all (stepB a)) = true := by decide +kernel
theorem step_t2 : (((rowsN 3).drop 10).take 5).all (fun a => (rowsN 3).all (stepB a)) = true := by decide +kernel
theorem step_t3 : (((rowsN 3).drop 15).take 5).all (fun a => (rowsN 3).all (stepB a)) = true := by decide +kernel
theorem step_t4 : (((rowsN 3).drop 20).take 5).all (fun a => (rowsN 3).all (stepB a)) = true := by decide +kernel
theorem step_t5 : (((rowsN 3).drop 25).take 5).all (fun a => (rowsN 3).all (stepB a)) = true := by decide +kernel
theorem step_t6 : (((rowsN 3).drop 30).take 5).all (fun a => (rowsN 3).all (stepB a)) = true := by decide +kernel
theorem step_t7 : (((rowsN 3).drop 35).take 5).all (fun a => (rowsN 3).all (stepB a)) = true := by decide +kernel
theorem step_t8 : (((rowsN 3).drop 40).take 5).all (fun a => (rowsN 3).all (stepB a)) = true := by decide +kernel
theorem step_t9 : (((rowsN 3).drop 45).take 5).all (fun a => (rowsN 3).all (stepB a)) = true := by decide +kernel
theorem step_t10 : (((rowsN 3).drop 50).take 5).all (fun a => (rowsN 3).all (stepB a)) = true := by decide +kernel
theorem step_t11 : (((rowsN 3).drop 55).take 5).all (fun a => (rowsN 3).all (stepB a)) = true := by decide +kernel
theorem step_t12 : (((rowsN 3).drop 60).take 5).all (fun a => (rowsN 3).all (stepB a)) = true := by decide +kernel
theorem step_tab : (rowsN 3).all (fun a => (rowsN 3).all (stepB a)) = true := by
  have e : rowsN 3 = (((rowsN 3).drop 0).take 5) ++ (((rowsN 3).drop 5).take 5) ++ (((rowsN 3).drop 10).take 5) ++ (((rowsN 3).drop 15).take 5) ++ (((rowsN 3).drop 20).take 5) ++ (((rowsN 3).drop 25).take 5) ++ (((rowsN 3).drop 30).take 5) ++ (((rowsN 3).drop 35).take 5) ++ (((rowsN 3).drop 40).take 5) ++ (((rowsN 3).drop 45).take 5) ++ (((rowsN 3).drop 50).take 5) ++ (((rowsN 3).drop 55).take 5) ++ (((rowsN 3).drop 60).take 5) := by decide +kernel
  rw [List.all_eq_true]
  intro a ha
  rw [e] at ha
  simp only [List.mem_append] at ha
  rcases ha with (((((((((((ha | ha) | ha) | ha) | ha) | ha) | ha) | ha) | ha) | ha) | ha) | ha) | ha
  · exact List.all_eq_true.mp step_t0 a ha
  · exact List.all_eq_true.mp step_t1 a ha
  · exact List.all_eq_true.mp step_t2 a ha
  · exact List.all_eq_true.mp step_t3 a ha
  · exact List.all_eq_true.mp step_t4 a ha
  · exact List.all_eq_true.mp step_t5 a ha
  · exact List.all_eq_true.mp step_t6 a ha
  · exact List.all_eq_true.mp step_t7 a ha
  · exact List.all_eq_true.mp step_t8 a ha
  · exact List.all_eq_true.mp step_t9 a ha
  · exact List.all_eq_true.mp step_t10 a ha
  · exact List.all_eq_true.mp step_t11 a ha
  · exact List.all_eq_true.mp step_t12 a ha
theorem steps_of {a b : List Str} (ha : R4 a) (hb : R4 b) : m_fewest_steps [strT a, strT b] = some (.int (stepsI a b)) ∧ m_law_steps [strT a, strT b] = some (.int (stepsI a b)) := by
  have h := List.all_eq_true.mp (List.all_eq_true.mp step_tab a ha.mem) b hb.mem
  unfold stepB at h
  unfold stepsI
  split at h
  · rename_i i e1
    split at h
    · rename_i j e2
      have h := of_decide_eq_true h
      subst h
      rw [e1]
      exact ⟨intOf_eq e1, intOf_eq e2⟩
    · cases h
  · cases h
end Od
end
section
set_option maxHeartbeats 8000000
/-! OdLists: all lists of some bills. -/
namespace Od
open PySem PySem.Spec PyProof.Rows L2
def strsOf : List PyData → Option (List Str)
  | [] => some []
  | .str x :: r => match strsOf r with
    | some l => some (x :: l)
    | none => none
  | _ :: _ => none
def rowsOf : List PyData → Option (List (List Str))
  | [] => some []
  | .tuple ds :: r => match strsOf ds with
    | some l => match rowsOf r with
      | some ls => some (l :: ls)
      | none => none
    | none => none
  | _ :: _ => none
def listOf : Option PyData → Option (List (List Str))
  | some (.list ds) => rowsOf ds
  | _ => none
theorem strsOf_eq : ∀ {ds : List PyData} {l : List Str}, strsOf ds = some l → ds = l.map PyData.str
  | [], l, h => by cases h; rfl
  | .str x :: r, l, h => by
    unfold strsOf at h
    split at h
    · rename_i l2 e
      cases h
      rw [strsOf_eq e]
      rfl
    · cases h
  | .none :: _, _, h => by cases h
  | .bool _ :: _, _, h => by cases h
  | .int _ :: _, _, h => by cases h
  | .list _ :: _, _, h => by cases h
  | .tuple _ :: _, _, h => by cases h
  | .dict _ :: _, _, h => by cases h
theorem rowsOf_eq : ∀ {ds : List PyData} {L : List (List Str)}, rowsOf ds = some L → ds = L.map strT
  | [], l, h => by cases h; rfl
  | .tuple x :: r, l, h => by
    unfold rowsOf at h
    split at h
    · rename_i l1 e1
      split at h
      · rename_i l2 e
        cases h
        rw [rowsOf_eq e, strsOf_eq e1]
        rfl
      · cases h
    · cases h
  | .none :: _, _, h => by cases h
  | .bool _ :: _, _, h => by cases h
  | .int _ :: _, _, h => by cases h
  | .list _ :: _, _, h => by cases h
  | .str _ :: _, _, h => by cases h
  | .dict _ :: _, _, h => by cases h
theorem listOf_eq : ∀ {o : Option PyData} {L : List (List Str)}, listOf o = some L → o = some (.list (L.map strT))
  | some (.list ds), L, h => by rw [rowsOf_eq h]
  | some (.int _), _, h => by cases h
  | some .none, _, h => by cases h
  | some (.bool _), _, h => by cases h
  | some (.str _), _, h => by cases h
  | some (.tuple _), _, h => by cases h
  | some (.dict _), _, h => by cases h
  | none, _, h => by cases h
def allOk (n : Nat) : Bool := match listOf (m_all_lists [strT (tagsN n)]) with
  | some L => match listOf (m_law_all [strT (tagsN n)]) with
    | some L2 => decide (L = L2) && (L.all fun r => decide r.Nodup && r.all fun x => decide (x ∈ tagsN n)) && decide (([] : List Str) ∈ L) && decide (L.length ≤ 1000)
    | none => false
  | none => false
theorem all_tab : ∀ n, n < 4 → allOk n = true := by decide +kernel
theorem all_lists_of {n : Nat} (hn : n < 4) : ∃ L : List (List Str), m_all_lists [strT (tagsN n)] = some (.list (L.map strT)) ∧ m_law_all [strT (tagsN n)] = some (.list (L.map strT)) ∧ (∀ r ∈ L, RowOk (tagsN n) r) ∧ [] ∈ L ∧ L.length ≤ 1000 := by
  have h := all_tab n hn
  unfold allOk at h
  split at h
  · rename_i L e1
    split at h
    · rename_i L2 e2
      rw [Bool.and_eq_true, Bool.and_eq_true, Bool.and_eq_true] at h
      obtain ⟨⟨⟨h1, h2⟩, h3⟩, h4⟩ := h
      have h1 := of_decide_eq_true h1
      subst h1
      refine ⟨L, listOf_eq e1, listOf_eq e2, fun r hr => ?_, of_decide_eq_true h3, of_decide_eq_true h4⟩
      have q := List.all_eq_true.mp h2 r hr
      rw [Bool.and_eq_true] at q
      exact ⟨of_decide_eq_true q.1, fun x hx => of_decide_eq_true (List.all_eq_true.mp q.2 x hx)⟩
    · cases h
  · cases h
end Od
end
section
set_option maxHeartbeats 8000000
/-! OdGood: books of the law: list_of, with_list, is_good. -/
namespace Od
open PySem PySem.Spec PyProof.Rows L2
def rowAt : List Str → List (List Str) → Str → List Str
  | n :: ns, r :: rs, x => if n = x then r else rowAt ns rs x
  | _, _, _ => []
theorem get_at : ∀ {ns : List Str} {rows : List (List Str)} {x : Str}, rows.length = ns.length → x ∈ ns → getE (bookE ns rows) x = some (strT (rowAt ns rows x)) ∧ rowAt ns rows x ∈ rows
  | [], _, _, _, h => by cases h
  | _ :: _, [], _, h, _ => by cases h
  | n :: ns, r :: rows, x, hl, h => by
    show (if n = x then some (strT r) else getE (bookE ns rows) x) = some (strT (if n = x then r else rowAt ns rows x)) ∧ (if n = x then r else rowAt ns rows x) ∈ r :: rows
    by_cases c : n = x
    · rw [if_pos c, if_pos c]
      exact ⟨rfl, List.mem_cons_self⟩
    · rw [if_neg c, if_neg c]
      obtain ⟨h1, h2⟩ := get_at (Nat.succ.inj hl) ((List.mem_cons.mp h).resolve_left fun z => c z.symm)
      exact ⟨h1, List.mem_cons_of_mem _ h2⟩
theorem set_off : ∀ {ns : List Str} {rows : List (List Str)} {x : Str} {d : PyData}, x ∉ ns → setE (bookE ns rows) x d = bookE ns rows
  | [], rows, _, _, _ => by cases rows <;> rfl
  | n :: ns, [], _, _, _ => rfl
  | n :: ns, r :: rows, x, d, h => by
    show (PyData.str n, if n = x then d else strT r) :: setE (bookE ns rows) x d = (PyData.str n, strT r) :: bookE ns rows
    rw [if_neg (fun z => h (by rw [z]; exact List.mem_cons_self)), set_off fun z => h (List.mem_cons_of_mem _ z)]
theorem set_book : ∀ {ns : List Str} {rows : List (List Str)} {x : Str} {i : Nat} {r : List Str}, ns.Nodup → ns[i]? = some x → rows.length = ns.length → setE (bookE ns rows) x (strT r) = bookE ns (rows.set i r)
  | [], _, _, _, _, _, h, _ => by simp at h
  | _ :: _, [], _, _, _, _, _, h => by cases h
  | n :: ns, s :: rows, x, 0, r, nd, h, hl => by
    cases h
    show (PyData.str n, if n = n then strT r else strT s) :: setE (bookE ns rows) n (strT r) = (PyData.str n, strT r) :: bookE ns rows
    rw [if_pos rfl, set_off (List.nodup_cons.mp nd).1]
  | n :: ns, s :: rows, x, i + 1, r, nd, h, hl => by
    obtain ⟨h1, h2⟩ := List.nodup_cons.mp nd
    have hx : x ∈ ns := List.mem_of_getElem? (i := i) h
    show (PyData.str n, if n = x then strT r else strT s) :: setE (bookE ns rows) x (strT r) = (PyData.str n, strT s) :: bookE ns (rows.set i r)
    rw [if_neg (fun z => h1 (by rw [z]; exact hx)), set_book h2 h (Nat.succ.inj hl)]
theorem put_book {ns : List Str} {rows : List (List Str)} {x : Str} {i : Nat} {r : List Str} (nd : ns.Nodup) (h : ns[i]? = some x) (hl : rows.length = ns.length) : putE (bookE ns rows) x (strT r) = bookE ns (rows.set i r) := by
  unfold putE
  rw [(get_at hl (List.mem_of_getElem? h)).1]
  exact set_book nd h hl
theorem at_set : ∀ {ns : List Str} {rows : List (List Str)} {x : Str} {i : Nat} {r : List Str} (y : Str), ns.Nodup → ns[i]? = some x → rows.length = ns.length → rowAt ns (rows.set i r) y = if y = x then r else rowAt ns rows y
  | [], _, _, _, _, _, _, h, _ => by simp at h
  | _ :: _, [], _, _, _, _, _, _, h => by cases h
  | n :: ns, s :: rows, x, 0, r, y, nd, h, hl => by
    cases h
    show (if n = y then r else rowAt ns rows y) = if y = n then r else if n = y then s else rowAt ns rows y
    by_cases c : n = y
    · rw [if_pos c, if_pos c.symm]
    · rw [if_neg c, if_neg (fun z => c z.symm), if_neg c]
  | n :: ns, s :: rows, x, i + 1, r, y, nd, h, hl => by
    obtain ⟨h1, h2⟩ := List.nodup_cons.mp nd
    have hx : x ∈ ns := List.mem_of_getElem? (i := i) h
    show (if n = y then s else rowAt ns (rows.set i r) y) = if y = x then r else if n = y then s else rowAt ns rows y
    by_cases c : n = y
    · rw [if_pos c, if_pos c, if_neg (fun z => h1 (by rw [c, z]; exact hx))]
    · rw [if_neg c, if_neg c, at_set y h2 h (Nat.succ.inj hl)]
section
variable {n m i : Nat} {rows : List (List Str)} {tg : Str} {r : List Str}
theorem BookOk.ns (B : BookOk n m rows) : (namesN m).Nodup ∧ (namesN m).length = m + 1 := names_nd m B.hm
theorem BookOk.ln (B : BookOk n m rows) : rows.length = (namesN m).length := by rw [B.len, B.ns.2]
theorem BookOk.set (B : BookOk n m rows) (h : RowOk (tagsN n) r) (i : Nat) : BookOk n m (rows.set i r) := ⟨B.hn, B.hm, by rw [List.length_set]; exact B.len, fun s hs => by
  rcases List.mem_or_eq_of_mem_set hs with hs | hs
  · exact B.ok s hs
  · rw [hs]; exact h⟩
theorem BookOk.at_ok (B : BookOk n m rows) (h : tg ∈ namesN m) : RowOk (tagsN n) (rowAt (namesN m) rows tg) := B.ok _ (get_at B.ln h).2
theorem names_ok : ∀ m, m < 3 → ∀ x ∈ namesN m, PyData.strOk x = true ∧ m_is_name [.str x] = some (.bool true) := by
  have h : ∀ m, m < 3 → ∀ x ∈ namesN m, PyData.strOk x = true ∧ boolOf (m_is_name [.str x]) = some true := by decide +kernel
  intro m hm x hx
  obtain ⟨h1, h2⟩ := h m hm x hx
  refine ⟨h1, ?_⟩
  generalize m_is_name [.str x] = o at h2
  match o, h2 with
  | some (.bool b), h2 => cases h2; rfl
def tupOf : Option PyData → Option (List Str)
  | some (.tuple ds) => strsOf ds
  | _ => none
theorem tupOf_eq : ∀ {o : Option PyData} {l : List Str}, tupOf o = some l → o = some (strT l)
  | some (.tuple ds), l, h => by rw [strsOf_eq h]; rfl
  | some (.int _), _, h => by cases h
  | some .none, _, h => by cases h
  | some (.bool _), _, h => by cases h
  | some (.str _), _, h => by cases h
  | some (.list _), _, h => by cases h
  | some (.dict _), _, h => by cases h
  | none, _, h => by cases h
theorem set_tab : ∀ n, n < 4 → tupOf (m_set_of [strT (tagsN n)]) = some (tagsN n) := by decide +kernel
theorem set_of_tags (hn : n < 4) : m_set_of [strT (tagsN n)] = some (strT (tagsN n)) := tupOf_eq (set_tab n hn)
theorem tagsN_len (hn : n < 4) : (tagsN n).length = n + 1 := (tags_nd n hn).2.2.1
theorem tagsN_ok (hn : n < 4) : ∀ x ∈ tagsN n, PyData.strOk x = true := (tags_nd n hn).2.1
theorem bills_bk (hn : n < 4) (es : Es) : m_bills [bookD (strT (tagsN n)) es] = some (strT (tagsN n)) :=
  bills_book (tupOk_strT (by rw [tagsN_len hn]; omega) 5)
theorem payers_bk (B : BookOk n m rows) (T : PyData) : m_payers [bookD T (bk m rows)] = some (strT (namesN m)) := payers_book B.ln (by rw [B.ns.2]; have := B.hm; omega)
theorem check_payer_bk (B : BookOk n m rows) (T : PyData) (h : tg ∈ namesN m) : m_check_payer [bookD T (bk m rows), .str tg] = some .none := by
  refine run_nx (ρ := [some (bookD T (bk m rows)), some (.str tg)]) ?_
  show dIfS _ dNever dNext [some (bookD T (bk m rows)), some (.str tg)] = _
  rw [ifF_of] <;> try rfl
  refine dB_of ?_
  rw [d2_of (d := .str tg) (e := strT (namesN m)) rfl ((dN1 rfl).trans (payers_bk B T)), notInD_strT, decide_eq_true h]
  rfl
theorem list_of_bk (B : BookOk n m rows) (T : PyData) (h : tg ∈ namesN m) : m_list_of [bookD T (bk m rows), .str tg] = some (strT (rowAt (namesN m) rows tg)) := by
  refine run_of (drop_of (d := .none) ((dN2 rfl rfl).trans (check_payer_bk B T h)) (ret_of ?_))
  rw [d2_of (d := .dict (bk m rows)) (e := .str tg) ((dN1 rfl).trans (table_bk B T)) rfl]
  exact (get_at B.ln h).1
theorem mem_bookE : ∀ {ns : List Str} {rows : List (List Str)} {e : PyData × PyData}, e ∈ bookE ns rows → ∃ x a, e = (.str x, strT a) ∧ x ∈ ns ∧ a ∈ rows
  | [], rows, _, h => by cases rows <;> cases h
  | _ :: _, [], _, h => by cases h
  | n :: ns, r :: rows, e, h => by
    rcases List.mem_cons.mp h with h | h
    · exact ⟨n, r, h, List.mem_cons_self, List.mem_cons_self⟩
    · obtain ⟨x, a, h1, h2, h3⟩ := mem_bookE h
      exact ⟨x, a, h1, List.mem_cons_of_mem _ h2, List.mem_cons_of_mem _ h3⟩
theorem alike_strs : ∀ (a b : List Str), PySem.W.alikeAll (a.map PyData.str) (b.map PyData.str) = true
  | [], _ => by rw [List.map_nil, PySem.W.alikeAll]
  | _ :: _, [] => by rw [List.map_nil, List.map_cons, PySem.W.alikeAll]
  | x :: a, y :: b => by
    rw [List.map_cons, List.map_cons, PySem.W.alikeAll, alike_strs a b, PySem.W.alike]
    rfl
theorem alike_item (x y : Str) (a b : List Str) : PySem.W.alike (itemD (.str x, strT a)) (itemD (.str y, strT b)) = true := by
  unfold itemD strT
  simp only [PySem.W.alike, PySem.W.alikeAll, alike_strs, Bool.and_self]
theorem item_fine {x : Str} {a : List Str} (hx : PyData.strOk x = true) (ha : ∀ y ∈ a, PyData.strOk y = true) : (decide ((itemD (.str x, strT a)).depth ≤ 32) && (itemD (.str x, strT a)).canLay0) = true := by
  unfold itemD strT
  simp only [PyData.depth, PyData.depthAll, depth_strs, PyData.canLay0, PyData.canLayAll0, lay_strs ha, hx]
  rfl
theorem isort_bk (hm : m < 3) (hl : rows.length = m + 1) : isort ((bk m rows).map itemD) = (bk m rows).map itemD ∧ strictly ((bk m rows).map itemD) = true := by
  rcases three hm hl with ⟨rfl, a, rfl⟩ | ⟨rfl, a, b, rfl⟩ | ⟨rfl, a, b, c, rfl⟩ <;> exact ⟨rfl, rfl⟩
theorem sort_items_bk (B : BookOk n m rows) : sortItemsD (.dict (bk m rows)) = some (.list (pairsE (bk m rows))) := by
  obtain ⟨h1, h2⟩ := isort_bk (rows := rows) B.hm B.len
  have hm := B.hm
  show (if sortOk ((bk m rows).map itemD) then some (PyData.list (isort ((bk m rows).map itemD))) else none) = _
  rw [if_pos ?_, h1]
  · rfl
  · unfold sortOk
    rw [h1, h2, items_kind]
    have e1 : decide (((bk m rows).map itemD).length ≤ 1000000) = true := decide_eq_true (by rw [List.length_map]; unfold bk; rw [bookE_len B.ln, B.ns.2]; omega)
    have e2 : alikeB ((bk m rows).map itemD) = true := by
      unfold alikeB
      refine List.all_eq_true.mpr fun d hd => List.all_eq_true.mpr fun d' hd' => ?_
      obtain ⟨e, he, rfl⟩ := List.mem_map.mp hd
      obtain ⟨e', he', rfl⟩ := List.mem_map.mp hd'
      obtain ⟨x, a, rfl, _, _⟩ := mem_bookE he
      obtain ⟨x', a', rfl, _, _⟩ := mem_bookE he'
      exact alike_item x x' a a'
    have e3 : ((bk m rows).map itemD).all (fun d => decide (d.depth ≤ 32) && d.canLay0) = true := by
      refine List.all_eq_true.mpr fun d hd => ?_
      obtain ⟨e, he, rfl⟩ := List.mem_map.mp hd
      obtain ⟨x, a, rfl, hx, ha⟩ := mem_bookE he
      exact item_fine (names_ok m hm x hx).1 (R4.of (B.ok a ha)).oks
    rw [e1, e2, e3]
    rfl
/-- a loop that leaves its environment but for the loop's name -/
theorem for_next {i : Nat} {tb : DS} : ∀ (a : List Str) {ρ : DEnv}, i < ρ.length → (∀ x ∈ a, ∀ ρ' : DEnv, ρ'.length = ρ.length → (∀ j, j ≠ i → ρ'[j]? = ρ[j]?) → tb (ρ'.set i (some (.str x))) = some (.nx (ρ'.set i (some (.str x))))) →
    ∃ ρ2 : DEnv, forGo (tgN i) tb (a.map PyData.str) ρ = some (.nx ρ2) := by
  intro a ρ hi h
  obtain ⟨ρ2, e⟩ := for_all (d0 := .none) (p := fun _ => true) a hi fun x hx ρ' h1 h2 => (h x hx ρ' h1 h2).trans (by rfl)
  exact ⟨ρ2, by rw [e, List.all_eq_true.mpr fun _ _ => rfl]; rfl⟩
theorem check_bills_bk (hn : n < 4) (es : Es) (h : RowOk (tagsN n) r) : m_check_bills [bookD (strT (tagsN n)) es, strT r] = some .none := by
  obtain ⟨ρ2, e⟩ := for_next (i := 3) (tb := dIfS (dB (d2 notInD (dVar 3) (dVar 2))) dNever dNext) r (ρ := [some (bookD (strT (tagsN n)) es), some (strT r), some (strT (tagsN n)), none]) (by show 3 < 4; decide) fun x hx ρ' hl hj => by
    have g2 : ρ'[2]? = some (some (strT (tagsN n))) := hj 2 (by decide)
    match ρ', hl, g2 with
    | [_, _, _, _], _, rfl =>
      refine ifF_of (dB_of ?_)
      show notInD (.str x) (strT (tagsN n)) = _
      rw [notInD_strT, decide_eq_true (h.2 x hx)]
      rfl
  exact run_nx (seq_asg ((dN1 rfl).trans (bills_bk hn es)) e)
theorem with_list_bk (B : BookOk n m rows) (hi : (namesN m)[i]? = some tg) (hr : RowOk (tagsN n) r) : m_with_list [bookD (strT (tagsN n)) (bk m rows), .str tg, strT r] = some (bookD (strT (tagsN n)) (bk m (rows.set i r))) := by
  have ht : tg ∈ namesN m := List.mem_of_getElem? hi
  have hm := B.hm
  refine run_of (drop_of (d := .none) ((dN2 rfl rfl).trans (check_payer_bk B _ ht)) (drop_of (d := .none) ((dN2 rfl rfl).trans (check_bills_bk B.hn _ hr)) (ret_of ?_)))
  have e1 : withD (.dict (bk m rows)) (.str tg) (strT r) = some (.dict (bk m (rows.set i r))) := by
    show (if (bk m rows).length ≤ 1000000 then some (PyData.dict (putE (mergeE [] (bk m rows)) tg (strT r))) else none) = _
    rw [if_pos (by unfold bk; rw [bookE_len B.ln, B.ns.2]; omega), merge_bk hm B.len]
    unfold bk
    rw [put_book B.ns.1 hi B.ln]
  have e2 : d3 withD (dN m_lists_table (dArgs [dVar 0])) (dVar 1) (dN m_tupled (dArgs [dVar 2])) [some (bookD (strT (tagsN n)) (bk m rows)), some (.str tg), some (strT r)] = some (.dict (bk m (rows.set i r))) := by
    unfold d3
    rw [(dN1 (f := m_lists_table) (t := dVar 0) (ρ := [some (bookD (strT (tagsN n)) (bk m rows)), some (.str tg), some (strT r)]) rfl).trans (table_bk B (strT (tagsN n))), (dN1 (f := m_tupled) (t := dVar 2) (ρ := [some (bookD (strT (tagsN n)) (bk m rows)), some (.str tg), some (strT r)]) rfl).trans (tupled_strT (a := r) (by have := (R4.of hr).len; omega))]
    exact e1
  refine (dN2 (d := strT (tagsN n)) (e := .dict (bk m (rows.set i r))) ((dN1 rfl).trans (bills_bk B.hn _)) e2).trans ?_
  refine run_of (ret_of ?_)
  have q1 : dN m_set_of (dArgs [dVar 0]) [some (strT (tagsN n)), some (.dict (bk m (rows.set i r)))] = some (strT (tagsN n)) := (dN1 rfl).trans (set_of_tags B.hn)
  have q2 : dN tupD (dArgs [d1 sortItemsD (dVar 1)]) [some (strT (tagsN n)), some (.dict (bk m (rows.set i r)))] = some (.tuple (pairsE (bk m (rows.set i r)))) := by
    rw [dN1 ((d1_of rfl).trans (sort_items_bk (B.set hr i)))]
    rfl
  show dTup _ [some (strT (tagsN n)), some (.dict (bk m (rows.set i r)))] = _
  exact tup2_of q1 q2
/-! ### is_good -/
def prs : Nat → List (Str × Str)
  | 0 => []
  | 1 => [("ann", "bob")]
  | _ => [("ann", "bob"), ("ann", "x"), ("bob", "x")]
def goodB (m : Nat) (rows : List (List Str)) : Bool := (prs m).all fun p => fitB (rowAt (namesN m) rows p.1) (rowAt (namesN m) rows p.2)
theorem prs_mem : ∀ m, m < 3 → ∀ p ∈ prs m, p.1 ∈ namesN m ∧ p.2 ∈ namesN m := by decide +kernel
def prD (p : Str × Str) : PyData := .tuple [.str p.1, .str p.2]
def lstOf : Option PyData → Option (List Str)
  | some (.list ds) => strsOf ds
  | _ => none
theorem lstOf_eq : ∀ {o : Option PyData} {l : List Str}, lstOf o = some l → o = some (.list (l.map PyData.str))
  | some (.list ds), l, h => by rw [strsOf_eq h]
  | some (.int _), _, h => by cases h
  | some .none, _, h => by cases h
  | some (.bool _), _, h => by cases h
  | some (.str _), _, h => by cases h
  | some (.tuple _), _, h => by cases h
  | some (.dict _), _, h => by cases h
  | none, _, h => by cases h
theorem names_tab : ∀ m, m < 3 → lstOf (sortL ((namesN m).map PyData.str)) = some (namesN m) := by decide +kernel
theorem sort_names (hm : m < 3) : sortL ((namesN m).map PyData.str) = some (.list ((namesN m).map PyData.str)) := lstOf_eq (names_tab m hm)
theorem keys_bk (B : BookOk n m rows) : sortKD [.dict (bk m rows)] = some (.list ((namesN m).map PyData.str)) := by
  show (if (bk m rows).all (fun e => otherB e.1) then sortL ((bk m rows).map (·.1)) else none) = _
  rw [if_pos ?_]
  · unfold bk
    rw [keys_book B.ln]
    exact sort_names B.hm
  · refine List.all_eq_true.mpr fun e he => ?_
    obtain ⟨x, a, rfl, _, _⟩ := mem_bookE he
    rfl
theorem pairs_bk (hm : m < 3) (b t : PyData) : dLc2 (dEnumA (dVar 2)) (tgT [5, 6]) dYes (dItems (dSl (dVar 2) (dPart (d2 addD (dVar 5) (dC (.int 1)))) dNo)) (tgN 4) dYes (dTup [dVar 6, dVar 4]) [5, 6, 4] [4] [some b, some t, some (.list ((namesN m).map PyData.str)), none, none, none, none, none] = some (.list ((prs m).map prD)) := by
  have : m = 0 ∨ m = 1 ∨ m = 2 := by omega
  rcases this with rfl | rfl | rfl <;> rfl
theorem is_good_bk (B : BookOk n m rows) (T : PyData) : m_is_good [bookD T (bk m rows)] = some (.bool (goodB m rows)) := by
  have hm := B.hm
  have e : m_odd_pairs [bookD T (bk m rows)] = some (.tuple (((prs m).filter fun p => !fitB (rowAt (namesN m) rows p.1) (rowAt (namesN m) rows p.2)).map prD)) := by
    refine run_of (seq_asg ((dN1 rfl).trans (table_bk B T)) (seq_asg ((dN1 rfl).trans (keys_bk B)) (seq_asg (pairs_bk hm _ _) (ret_of ?_))))
    rw [dN1 (d := .list (((prs m).filter fun p => !fitB (rowAt (namesN m) rows p.1) (rowAt (namesN m) rows p.2)).map prD))]
    · rfl
    · refine dLc_of (ds := (prs m).map prD) rfl (by rw [List.length_map]; have : (prs m).length ≤ 3 := by unfold prs; split <;> decide
                                                    omega) (lc_filter (f := prD) (g := prD) fun p hp => ⟨_, rfl, ?_, fun _ => rfl⟩)
      obtain ⟨h1, h2⟩ := prs_mem m hm p hp
      obtain ⟨g1, o1⟩ := get_at B.ln h1
      obtain ⟨g2, o2⟩ := get_at B.ln h2
      unfold dNotT
      rw [dB_of (b := fitB (rowAt (namesN m) rows p.1) (rowAt (namesN m) rows p.2))]
      rw [dN2 (d := strT (rowAt (namesN m) rows p.1)) (e := strT (rowAt (namesN m) rows p.2))]
      · exact agree_of (R4.of (B.ok _ o1)) (R4.of (B.ok _ o2))
      · exact g1
      · exact g2
  refine run_of (ret_of ?_)
  rw [d2_of (d := .int ((((prs m).filter fun p => !fitB (rowAt (namesN m) rows p.1) (rowAt (namesN m) rows p.2)).map prD).length : Int)) (e := .int 0) _ rfl, len0]
  · congr 2
    rw [List.length_map, Bool.eq_iff_iff, decide_eq_true_iff, List.length_eq_zero_iff, List.filter_eq_nil_iff]
    unfold goodB
    rw [List.all_eq_true]
    simp
  · rw [dN1 (f := lenD) ((dN1 rfl).trans e)]
    rfl
theorem good_with_bk (B : BookOk n m rows) (hi : (namesN m)[i]? = some tg) (hr : RowOk (tagsN n) r) : m_good_with [bookD (strT (tagsN n)) (bk m rows), .str tg, strT r] = some (.bool (goodB m (rows.set i r))) := by
  refine run_of (ret_of ?_)
  rw [dN1 ((dN3 rfl rfl rfl).trans (with_list_bk B hi hr))]
  exact is_good_bk (B.set hr i) _
end
end Od
end
section
set_option maxHeartbeats 8000000
/-! OdNear: nearest_lists and _law_nearest. -/
namespace Od
open PySem PySem.Spec PyProof.Rows L2
theorem ints_of : ∀ (l : List Int), intsOf (l.map PyData.int) = some l
  | [] => rfl
  | x :: r => by
    rw [List.map_cons, intsOf, ints_of r]
theorem min_of {l : List Int} (h : l ≠ []) : minD [.list (l.map PyData.int)] = some (.int (lowI l)) := by
  show (match intsOf (l.map PyData.int) with | some [] => none | some (n :: r) => some (PyData.int (lowI (n :: r))) | none => none) = _
  rw [ints_of]
  match l, h with
  | x :: r, _ => rfl
theorem eqD_int (i j : Int) : eqD (.int i) (.int j) = some (.bool (decide (i = j))) := by
  show (if SeqAt.shaped (.int i) && SeqAt.shaped (.int j) then some (PyData.bool (PyData.eqv (.int i) (.int j))) else none) = _
  rw [if_pos (by rfl), PyData.eqv]
  congr 2
/-- a number of steps and a list -/
def stD (S : List Str → Int) (o : List Str) : PyData := .tuple [.int (S o), strT o]
def lowF (F : List (List Str)) (S : List Str → Int) : Int := lowI (F.map S)
def nearD (F : List (List Str)) (S : List Str → Int) : PyData := if F = [] then .none else .tuple [.int (lowF F S), .list ((F.filter fun r => decide (S r = lowF F S)).map strT)]
section
variable {n m i : Nat} {rows : List (List Str)} {tg : Str}
theorem near_of (B : BookOk n m rows) (hi : (namesN m)[i]? = some tg) {L : List (List Str)} (hL : m_all_lists [strT (tagsN n)] = some (.list (L.map strT))) (okL : ∀ r ∈ L, RowOk (tagsN n) r) (lenL : L.length ≤ 1000) :
    m_nearest_lists [bookD (strT (tagsN n)) (bk m rows), .str tg] = some (nearD (L.filter fun o => goodB m (rows.set i o)) (stepsI (rowAt (namesN m) rows tg))) := by
  have ht : tg ∈ namesN m := List.mem_of_getElem? hi
  have hr := R4.of (B.at_ok ht)
  generalize hF : (L.filter fun o => goodB m (rows.set i o)) = F
  have hlF : F.length ≤ 1000 := by rw [← hF]; exact Nat.le_trans (List.length_filter_le _ _) lenL
  have e3 : dLc (dItems (dN m_all_lists (dArgs [dN m_bills (dArgs [dVar 0])]))) (tgN 5) (dB (dN m_good_with (dArgs [dVar 0, dVar 1, dVar 5]))) (dTup [dN m_fewest_steps (dArgs [dVar 2, dVar 5]), dVar 5]) [5] [some (bookD (strT (tagsN n)) (bk m rows)), some (.str tg), some (strT (rowAt (namesN m) rows tg)), none, none, none, none] = some (.list (F.map (stD (stepsI (rowAt (namesN m) rows tg))))) := by
    refine dLc_of (ds := L.map strT) ?_ (by rw [List.length_map]; omega) ?_
    · unfold dItems
      rw [dN1 ((dN1 rfl).trans (bills_bk B.hn (bk m rows))), hL]
    · rw [← hF]
      refine lc_filter (f := strT) (g := stD (stepsI (rowAt (namesN m) rows tg))) fun o ho => ⟨_, rfl, dB_of ((dN3 rfl rfl rfl).trans (good_with_bk B hi (okL o ho))), fun _ => ?_⟩
      have q := (dN2 (f := m_fewest_steps) (t := dVar 2) (u := dVar 5) (ρ := [some (bookD (strT (tagsN n)) (bk m rows)), some (.str tg), some (strT (rowAt (namesN m) rows tg)), none, none, some (strT o), none]) rfl rfl).trans (steps_of hr (R4.of (okL o ho))).1
      show dTup _ [some (bookD (strT (tagsN n)) (bk m rows)), some (.str tg), some (strT (rowAt (namesN m) rows tg)), none, none, some (strT o), none] = _
      exact tup2_of q rfl
  refine run_of (drop_of (d := .none) ((dN2 rfl rfl).trans (check_payer_bk B _ ht)) (seq_asg ((dN2 rfl rfl).trans (list_of_bk B _ ht)) (seq_asg e3 ?_)))
  show dSeq _ _ [some (bookD (strT (tagsN n)) (bk m rows)), some (.str tg), some (strT (rowAt (namesN m) rows tg)), some (.list (F.map (stD (stepsI (rowAt (namesN m) rows tg))))), none, none, none] = _
  generalize stepsI (rowAt (namesN m) rows tg) = S
  have c : dB (d2 eqD (dN lenD (dArgs [dVar 3])) (dC (.int 0))) [some (bookD (strT (tagsN n)) (bk m rows)), some (.str tg), some (strT (rowAt (namesN m) rows tg)), some (.list (F.map (stD S))), none, none, none] = some (decide (F = [])) := by
    refine dB_of ?_
    rw [d2_of (d := .int ((F.map (stD S)).length : Int)) (e := .int 0) rfl rfl, len0]
    congr 2
    rw [List.length_map, decide_eq_decide]
    exact List.length_eq_zero_iff
  by_cases hn : F = []
  · unfold nearD
    rw [if_pos hn]
    unfold dSeq
    rw [ifT_of (by rw [c, decide_eq_true hn])]
    rfl
  · have e4 : dN minD (dArgs [dLc (dItems (dVar 3)) (tgT [6, 5]) dYes (dVar 6) [6, 5]]) [some (bookD (strT (tagsN n)) (bk m rows)), some (.str tg), some (strT (rowAt (namesN m) rows tg)), some (.list (F.map (stD S))), none, none, none] = some (.int (lowF F S)) := by
      rw [dN1 (d := .list ((F.map S).map PyData.int))]
      · exact min_of fun z => hn (List.map_eq_nil_iff.mp z)
      · rw [List.map_map]
        exact dLc_of (ds := F.map (stD S)) rfl (by rw [List.length_map]; omega) (lc_all (f := stD S) (g := PyData.int ∘ S) fun o _ => ⟨_, rfl, rfl⟩)
    have e5 : dLc (dItems (dVar 3)) (tgT [6, 5]) (dB (d2 eqD (dVar 6) (dVar 4))) (dVar 5) [6, 5] [some (bookD (strT (tagsN n)) (bk m rows)), some (.str tg), some (strT (rowAt (namesN m) rows tg)), some (.list (F.map (stD S))), some (.int (lowF F S)), none, none] = some (.list ((F.filter fun r => decide (S r = lowF F S)).map strT)) :=
      dLc_of (ds := F.map (stD S)) rfl (by rw [List.length_map]; omega) (lc_filter (f := stD S) (g := strT) fun o _ => ⟨_, rfl, dB_of (eqD_int _ _), fun _ => rfl⟩)
    unfold nearD
    rw [if_neg hn]
    refine next_of (ifF_of (by rw [c, decide_eq_false hn])) (seq_asg e4 (ret_of ?_))
    show dTup _ [some (bookD (strT (tagsN n)) (bk m rows)), some (.str tg), some (strT (rowAt (namesN m) rows tg)), some (.list (F.map (stD S))), some (.int (lowF F S)), none, none] = _
    exact tup2_of rfl e5
end
end Od
end
section
set_option maxHeartbeats 8000000
/-! OdLnear: _law_nearest gives what nearest_lists gives. -/
namespace Od
open PySem PySem.Spec PyProof.Rows L2
theorem lay_rows : ∀ {ls : List (List Str)}, (∀ r ∈ ls, R4 r) → PyData.canLayAll0 (ls.map strT) = true
  | [], _ => by rw [List.map_nil, PyData.canLayAll0]
  | x :: a, h => by
    rw [List.map_cons, PyData.canLayAll0, lay_rows fun y hy => h y (List.mem_cons_of_mem _ hy)]
    unfold strT
    rw [PyData.canLay0, lay_strs (h x List.mem_cons_self).oks]
    rfl
theorem depth_rows : ∀ (ls : List (List Str)), PyData.depthAll (ls.map strT) ≤ 1
  | [] => by rw [List.map_nil, PyData.depthAll]; decide
  | x :: a => by
    have ih := depth_rows a
    rw [List.map_cons, PyData.depthAll]
    unfold strT at ih ⊢
    rw [PyData.depth, depth_strs]
    omega
theorem shaped_rows {ls : List (List Str)} (h : ∀ r ∈ ls, R4 r) : SeqAt.shaped (.list (ls.map strT)) = true := by
  unfold SeqAt.shaped
  have := depth_rows ls
  rw [PyData.canLay0, lay_rows h, PyData.depth, decide_eq_true (by omega)]
  rfl
theorem eqv_rows (ls : List (List Str)) : PyData.eqv (.list (ls.map strT)) (.list []) = ls.isEmpty := by
  rw [PyData.eqv]
  cases ls with
  | nil => rw [List.map_nil, PyData.eqvAll]; rfl
  | cons x r => rw [List.map_cons, PyData.eqvAll]; rfl
theorem eq_rows {ls : List (List Str)} (h : ∀ r ∈ ls, R4 r) : eqD (.list (ls.map strT)) (.list []) = some (.bool ls.isEmpty) := by
  unfold eqD
  rw [shaped_rows h, eqv_rows]
  rfl
theorem ne_rows {ls : List (List Str)} (h : ∀ r ∈ ls, R4 r) : neD (.list (ls.map strT)) (.list []) = some (.bool (!ls.isEmpty)) := by
  unfold neD
  rw [shaped_rows h, eqv_rows]
  rfl
theorem empty_all (fs : List (List Str)) (o : List Str) : (fs.filter fun f => !fitB f o).isEmpty = fs.all fun f => fitB f o := by
  rw [Bool.eq_iff_iff, List.isEmpty_iff, List.filter_eq_nil_iff, List.all_eq_true]
  simp
def goodF : List (List Str) → Bool
  | f0 :: f1 :: _ => fitB f0 f1
  | _ => true
def farL (m : Nat) (rows : List (List Str)) (tg : Str) : List (List Str) := ((namesN m).filter fun x => !decide (x = tg)).map (rowAt (namesN m) rows)
def lenv (es : Es) (T : PyData) (tg : Str) (s3 : Option PyData) (acc far : List PyData) (s7 : Option PyData) : DEnv := [some (.dict es), some T, some (.str tg), s3, none, some (.list acc), some (.list far), s7, none, none]
/-- the lists of far that do not agree with one -/
def oddLc (ti : DA) : DE := dLc ti (tgN 8) (dNotT (dB (dN m_law_fit (dArgs [dVar 8, dVar 3])))) (dVar 8) [8]
theorem odd_lc {es : Es} {T : PyData} {tg : Str} {o : List Str} {acc far : List PyData} {s7 : Option PyData} {ti : DA} {fs : List (List Str)} (ho : R4 o) (hf : ∀ f ∈ fs, R4 f) (hl : fs.length ≤ 1000) (hi : ti (lenv es T tg (some (strT o)) acc far s7) = some (fs.map strT)) :
    oddLc ti (lenv es T tg (some (strT o)) acc far s7) = some (.list ((fs.filter fun f => !fitB f o).map strT)) := by
  refine dLc_of hi (by rw [List.length_map]; omega) (lc_filter (f := strT) (g := strT) fun f h => ⟨_, rfl, ?_, fun _ => rfl⟩)
  unfold dNotT
  rw [dB_of ((dN2 rfl rfl).trans (fit_of (hf f h) ho))]
def chkTb : DS := dIfS (dB (d2 neD (oddLc (dItems (dSl (dVar 6) dNo (dPart (dVar 7))))) (dLst []))) (dRet (dC .none)) dNext
theorem cut_rows (ls : List (List Str)) {k : Nat} (h : k ≤ ls.length) : cutL (ls.map strT) none (some (k : Int)) = (ls.take k).map strT := by
  unfold cutL
  rw [HT.sIx_none, HT.sIx_nat, List.drop_zero, Nat.sub_zero, List.length_map, Nat.min_eq_left h, List.map_take]
theorem chk_step {es : Es} {T : PyData} {tg : Str} {o : List Str} {acc : List PyData} {fs : List (List Str)} {k : Nat} (ho : R4 o) (hf : ∀ f ∈ fs, R4 f) (hl : fs.length ≤ 1000) (hk : k ≤ fs.length) :
    chkTb (lenv es T tg (some (strT o)) acc (fs.map strT) (some (.int (k : Nat)))) = if (fs.take k).all (fun f => fitB f o) then some (.nx (lenv es T tg (some (strT o)) acc (fs.map strT) (some (.int (k : Nat))))) else some (.rt .none) := by
  have hs : ∀ f ∈ fs.take k, R4 f := fun f h => hf f (List.mem_of_mem_take h)
  have e : dItems (dSl (dVar 6) dNo (dPart (dVar 7))) (lenv es T tg (some (strT o)) acc (fs.map strT) (some (.int (k : Nat)))) = some ((fs.take k).map strT) := by
    rw [← cut_rows fs hk]
    rfl
  have q := odd_lc ho hs (by rw [List.length_take]; omega) e
  have c : dB (d2 neD (oddLc (dItems (dSl (dVar 6) dNo (dPart (dVar 7))))) (dLst [])) (lenv es T tg (some (strT o)) acc (fs.map strT) (some (.int (k : Nat)))) = some (!(fs.take k).all fun f => fitB f o) := by
    refine dB_of ?_
    rw [d2_of (e := .list []) q rfl, ne_rows fun r hr => hs r (List.mem_filter.mp hr).1, empty_all]
  cases h : (fs.take k).all fun f => fitB f o with
  | true =>
    rw [h] at c
    exact ifF_of c
  | false =>
    rw [h] at c
    exact ifT_of c
theorem chk_for {es : Es} {T : PyData} {tg : Str} {acc : List PyData} {fs : List (List Str)} (hf : ∀ f ∈ fs, R4 f) (hl : fs.length ≤ 2) :
    ∃ s3 s7, dFor (dEnumA (dVar 6)) (tgT [7, 3]) chkTb (lenv es T tg none acc (fs.map strT) none) = if goodF fs then some (.nx (lenv es T tg s3 acc (fs.map strT) s7)) else some (.rt .none) := by
  match fs, hf, hl with
  | [], hf, hl => exact ⟨none, none, rfl⟩
  | [f0], hf, hl =>
    have h0 := chk_step (es := es) (T := T) (tg := tg) (acc := acc) (k := 0) (hf f0 List.mem_cons_self) hf (by omega) (by omega)
    refine ⟨some (strT f0), some (.int (0 : Nat)), ?_⟩
    show forGo (tgT [7, 3]) chkTb [.tuple [.int (0 : Nat), strT f0]] (lenv es T tg none acc [strT f0] none) = _
    unfold forGo
    have e : tgT [7, 3] (.tuple [.int (0 : Nat), strT f0]) (lenv es T tg none acc [strT f0] none) = some (lenv es T tg (some (strT f0)) acc [strT f0] (some (.int (0 : Nat)))) := rfl
    rw [e]
    dsimp only
    rw [show chkTb (lenv es T tg (some (strT f0)) acc [strT f0] (some (.int (0 : Nat)))) = some (.nx (lenv es T tg (some (strT f0)) acc [strT f0] (some (.int (0 : Nat))))) from h0]
    rfl
  | [f0, f1], hf, hl =>
    have h0 := chk_step (es := es) (T := T) (tg := tg) (acc := acc) (k := 0) (hf f0 List.mem_cons_self) hf (by omega) (by omega)
    have h1 := chk_step (es := es) (T := T) (tg := tg) (acc := acc) (k := 1) (hf f1 (List.mem_cons_of_mem _ List.mem_cons_self)) hf (by omega) (show 1 ≤ 2 by omega)
    refine ⟨some (strT f1), some (.int (1 : Nat)), ?_⟩
    show forGo (tgT [7, 3]) chkTb [.tuple [.int (0 : Nat), strT f0], .tuple [.int (1 : Nat), strT f1]] (lenv es T tg none acc [strT f0, strT f1] none) = _
    unfold forGo
    have e : tgT [7, 3] (.tuple [.int (0 : Nat), strT f0]) (lenv es T tg none acc [strT f0, strT f1] none) = some (lenv es T tg (some (strT f0)) acc [strT f0, strT f1] (some (.int (0 : Nat)))) := rfl
    rw [e]
    dsimp only
    rw [show chkTb (lenv es T tg (some (strT f0)) acc [strT f0, strT f1] (some (.int (0 : Nat)))) = some (.nx (lenv es T tg (some (strT f0)) acc [strT f0, strT f1] (some (.int (0 : Nat))))) from h0]
    dsimp only
    unfold forGo
    have e1 : tgT [7, 3] (.tuple [.int (1 : Nat), strT f1]) (lenv es T tg (some (strT f0)) acc [strT f0, strT f1] (some (.int (0 : Nat)))) = some (lenv es T tg (some (strT f1)) acc [strT f0, strT f1] (some (.int (1 : Nat)))) := rfl
    rw [e1]
    dsimp only
    have h1' : chkTb (lenv es T tg (some (strT f1)) acc [strT f0, strT f1] (some (.int (1 : Nat)))) = if fitB f0 f1 then some (.nx (lenv es T tg (some (strT f1)) acc [strT f0, strT f1] (some (.int (1 : Nat))))) else some (.rt .none) := by
      have z : ([f0, f1].take 1).all (fun f => fitB f f1) = fitB f0 f1 := by simp
      rw [z] at h1
      exact h1
    rw [h1']
    show _ = if fitB f0 f1 then _ else _
    cases fitB f0 f1 <;> rfl
/-! ### the lists by which it is good -/
def accTb : DS := dIfS (dB (d2 eqD (oddLc (dItems (dVar 6))) (dLst []))) (dAsg 5 (d2 addD (dVar 5) (dLst [dTup [dN m_law_steps (dArgs [d2 dgetD (dVar 0) (dVar 2), dVar 3]), dVar 3]]))) dNext
theorem acc_step {es : Es} {T : PyData} {tg : Str} {o a : List Str} {A : List (List Str)} {fs : List (List Str)} {s7 : Option PyData} (ho : R4 o) (ha : R4 a) (hg : getE es tg = some (strT a)) (hf : ∀ f ∈ fs, R4 f) (hl : fs.length ≤ 1000) (hA : A.length ≤ 10000) :
    accTb (lenv es T tg (some (strT o)) (A.map (stD (stepsI a))) (fs.map strT) s7) = some (.nx (lenv es T tg (some (strT o)) ((A ++ [o].filter fun o => fs.all fun f => fitB f o).map (stD (stepsI a))) (fs.map strT) s7)) := by
  have q := odd_lc (es := es) (T := T) (tg := tg) (acc := A.map (stD (stepsI a))) (far := fs.map strT) (s7 := s7) (ti := dItems (dVar 6)) ho hf hl rfl
  have c : dB (d2 eqD (oddLc (dItems (dVar 6))) (dLst [])) (lenv es T tg (some (strT o)) (A.map (stD (stepsI a))) (fs.map strT) s7) = some (fs.all fun f => fitB f o) := by
    refine dB_of ?_
    rw [d2_of (e := .list []) q rfl, eq_rows fun r hr => hf r (List.mem_filter.mp hr).1, empty_all]
  cases h : fs.all fun f => fitB f o with
  | true =>
    rw [h] at c
    rw [show ([o].filter fun o => fs.all fun f => fitB f o) = [o] by unfold List.filter; rw [h]; rfl, List.map_append]
    refine (ifT_of c).trans (asg_of (d := .list (A.map (stD (stepsI a)) ++ [stD (stepsI a) o])) ?_)
    have e1 : d2 dgetD (dVar 0) (dVar 2) (lenv es T tg (some (strT o)) (A.map (stD (stepsI a))) (fs.map strT) s7) = some (strT a) := hg
    have e2 : dN m_law_steps (dArgs [d2 dgetD (dVar 0) (dVar 2), dVar 3]) (lenv es T tg (some (strT o)) (A.map (stD (stepsI a))) (fs.map strT) s7) = some (.int (stepsI a o)) := (dN2 e1 rfl).trans (steps_of ha ho).2
    rw [d2_of (d := .list (A.map (stD (stepsI a)))) (e := .list [stD (stepsI a) o]) rfl (lst1_of (tup2_of e2 rfl))]
    show (if (A.map (stD (stepsI a))).length + 1 ≤ 1000000 then _ else none) = _
    rw [if_pos (by rw [List.length_map]; omega)]
  | false =>
    rw [h] at c
    rw [show ([o].filter fun o => fs.all fun f => fitB f o) = [] by unfold List.filter; rw [h]; rfl, List.append_nil]
    exact ifF_of c
theorem acc_for {es : Es} {T : PyData} {tg : Str} {a : List Str} {fs : List (List Str)} {s7 : Option PyData} (ha : R4 a) (hg : getE es tg = some (strT a)) (hf : ∀ f ∈ fs, R4 f) (hl : fs.length ≤ 1000) : ∀ (L A : List (List Str)) (s3 : Option PyData), (∀ o ∈ L, R4 o) → A.length + L.length ≤ 10000 →
    ∃ s3', forGo (tgN 3) accTb (L.map strT) (lenv es T tg s3 (A.map (stD (stepsI a))) (fs.map strT) s7) = some (.nx (lenv es T tg s3' ((A ++ L.filter fun o => fs.all fun f => fitB f o).map (stD (stepsI a))) (fs.map strT) s7))
  | [], A, s3, _, _ => ⟨s3, by rw [List.filter_nil, List.append_nil]; rfl⟩
  | o :: L, A, s3, hL, hz => by
    rw [List.length_cons] at hz
    have ho := hL o List.mem_cons_self
    have h1 := acc_step (es := es) (T := T) (tg := tg) (A := A) (s7 := s7) ho ha hg hf hl (by omega)
    obtain ⟨s3', e⟩ := acc_for (T := T) (s7 := s7) ha hg hf hl L (A ++ [o].filter fun o => fs.all fun f => fitB f o) (some (strT o)) (fun x hx => hL x (List.mem_cons_of_mem _ hx)) (by
      have := List.length_filter_le (fun o => fs.all fun f => fitB f o) [o]
      rw [List.length_append]
      simp only [List.length_cons, List.length_nil] at this
      omega)
    refine ⟨s3', ?_⟩
    rw [List.map_cons, forGo]
    have e0 : tgN 3 (strT o) (lenv es T tg s3 (A.map (stD (stepsI a))) (fs.map strT) s7) = some (lenv es T tg (some (strT o)) (A.map (stD (stepsI a))) (fs.map strT) s7) := rfl
    rw [e0]
    dsimp only
    rw [h1]
    dsimp only
    rw [e, List.append_assoc, ← List.filter_append]
    rfl
section
variable {n m i : Nat} {rows : List (List Str)} {tg : Str}
theorem far_lc (B : BookOk n m rows) (T : PyData) (tg : Str) : dLc (dItems (dN sortD (dArgs [dKeys 0 9]))) (tgN 8) (dB (d2 neD (dVar 8) (dVar 2))) (d2 dgetD (dVar 0) (dVar 8)) [8] [some (.dict (bk m rows)), some T, some (.str tg), none, none, none, none, none, none, none] = if PyData.strOk tg then some (.list ((farL m rows tg).map strT)) else dLc (dItems (dN sortD (dArgs [dKeys 0 9]))) (tgN 8) (dB (d2 neD (dVar 8) (dVar 2))) (d2 dgetD (dVar 0) (dVar 8)) [8] [some (.dict (bk m rows)), some T, some (.str tg), none, none, none, none, none, none, none] := by
  have hm := B.hm
  cases ht : PyData.strOk tg with
  | false => rfl
  | true =>
    rw [if_pos rfl]
    unfold farL
    rw [List.map_map]
    refine dLc_of (ds := (namesN m).map PyData.str) ?_ (by rw [List.length_map, B.ns.2]; omega) (lc_filter (f := PyData.str) (g := strT ∘ rowAt (namesN m) rows) fun x hx => ⟨_, rfl, dB_of (neD_str (names_ok m hm x hx).1 ht), fun _ => (get_at B.ln hx).1⟩)
    unfold dItems
    have e : dKeys 0 9 [some (.dict (bk m rows)), some T, some (.str tg), none, none, none, none, none, none, none] = some (.list ((namesN m).map PyData.str)) := by
      show (if (bk m rows).length ≤ 1000000 then some (PyData.list ((bk m rows).map (·.1))) else none) = _
      unfold bk
      rw [if_pos (by rw [bookE_len B.ln, B.ns.2]; omega), keys_book B.ln]
    rw [dN1 e]
    show (match sortL ((namesN m).map PyData.str) with | some (.list ds) => some ds | some (.tuple ds) => some ds | _ => none) = _
    rw [sort_names hm]
theorem farL_ok (B : BookOk n m rows) (tg : Str) : ∀ f ∈ farL m rows tg, RowOk (tagsN n) f := fun f hf => by
  obtain ⟨x, hx, rfl⟩ := List.mem_map.mp hf
  exact B.at_ok (List.mem_filter.mp hx).1
theorem farL_len (B : BookOk n m rows) (ht : tg ∈ namesN m) : (farL m rows tg).length ≤ 2 := by
  have hm := B.hm
  have h : ((namesN m).filter fun x => !decide (x = tg)).length < (namesN m).length := List.length_filter_lt_length_iff_exists.mpr ⟨tg, ht, by simp⟩
  unfold farL
  rw [List.length_map]
  have := B.ns.2
  omega
theorem fit_nil (a : List Str) : fitB a [] = true := fitB_iff.mpr fun x _ h => by cases h
theorem law_near_of (B : BookOk n m rows) (ht : tg ∈ namesN m) {L : List (List Str)} (hL : m_law_all [strT (tagsN n)] = some (.list (L.map strT))) (okL : ∀ r ∈ L, RowOk (tagsN n) r) (nilL : [] ∈ L) (lenL : L.length ≤ 1000) :
    m_law_nearest [.dict (bk m rows), strT (tagsN n), .str tg] = some (if goodF (farL m rows tg) then nearD (L.filter fun o => (farL m rows tg).all fun f => fitB f o) (stepsI (rowAt (namesN m) rows tg)) else .none) := by
  have hm := B.hm
  have hr := R4.of (B.at_ok ht)
  have hg := (get_at B.ln ht).1
  have hf : ∀ f ∈ farL m rows tg, R4 f := fun f h => R4.of (farL_ok B tg f h)
  have lf := farL_len B ht
  have e1 := far_lc B (strT (tagsN n)) tg
  rw [if_pos (names_ok m hm tg ht).1] at e1
  have e1' : dPar 5 6 (dLst []) (dLc (dItems (dN sortD (dArgs [dKeys 0 9]))) (tgN 8) (dB (d2 neD (dVar 8) (dVar 2))) (d2 dgetD (dVar 0) (dVar 8)) [8]) [some (.dict (bk m rows)), some (strT (tagsN n)), some (.str tg), none, none, none, none, none, none, none] = some (.nx (lenv (bk m rows) (strT (tagsN n)) tg none [] ((farL m rows tg).map strT) none)) := by
    unfold dPar
    rw [show dLst [] [some (.dict (bk m rows)), some (strT (tagsN n)), some (.str tg), none, none, none, none, none, none, none] = some (.list []) from rfl]
    dsimp only
    rw [e1] <;> rfl
  obtain ⟨s3, s7, e2⟩ := chk_for (es := bk m rows) (T := strT (tagsN n)) (tg := tg) (acc := []) hf lf
  generalize hfar : farL m rows tg = far at *
  unfold m_law_nearest runD
  show (match dSeq _ (dSeq (dFor (dEnumA (dVar 6)) (tgT [7, 3]) chkTb) (dSeq (dFor (dItems (dN m_law_all (dArgs [dVar 1]))) (tgN 3) accTb) _)) [some (.dict (bk m rows)), some (strT (tagsN n)), some (.str tg), none, none, none, none, none, none, none] with | some (.rt d) => some d | some (.nx _) => some .none | _ => none) = _
  cases hgood : goodF far with
  | false =>
    rw [hgood] at e2
    rw [next_of (o := some (.rt .none)) e1' (by unfold dSeq; rw [e2] <;> rfl)]
    rfl
  | true =>
    rw [hgood] at e2
    obtain ⟨s3', e3⟩ := acc_for (T := strT (tagsN n)) (tg := tg) (s7 := s7) hr hg hf (by omega) L [] s3 (fun o ho => R4.of (okL o ho)) (by rw [List.length_nil]; omega)
    rw [List.nil_append] at e3
    generalize hF : (L.filter fun o => far.all fun f => fitB f o) = F at e3
    have hlF : F.length ≤ 1000 := by rw [← hF]; exact Nat.le_trans (List.length_filter_le _ _) lenL
    have hn : F ≠ [] := fun z => by
      have : ([] : List Str) ∈ F := by
        rw [← hF]
        exact List.mem_filter.mpr ⟨nilL, List.all_eq_true.mpr fun f _ => fit_nil f⟩
      rw [z] at this
      cases this
    generalize stepsI (rowAt (namesN m) rows tg) = S at e3
    have e3' : dFor (dItems (dN m_law_all (dArgs [dVar 1]))) (tgN 3) accTb (lenv (bk m rows) (strT (tagsN n)) tg s3 [] (far.map strT) s7) = some (.nx (lenv (bk m rows) (strT (tagsN n)) tg s3' (F.map (stD S)) (far.map strT) s7)) := by
      unfold dFor
      rw [show dItems (dN m_law_all (dArgs [dVar 1])) (lenv (bk m rows) (strT (tagsN n)) tg s3 [] (far.map strT) s7) = some (L.map strT) by unfold dItems; rw [(dN1 rfl).trans hL]]
      exact e3
    have e4 : dN minD (dArgs [dLc (dItems (dVar 5)) (tgN 8) dYes (d2 ixD (dVar 8) (dC (.int 0))) [8]]) (lenv (bk m rows) (strT (tagsN n)) tg s3' (F.map (stD S)) (far.map strT) s7) = some (.int (lowF F S)) := by
      rw [dN1 (d := .list ((F.map S).map PyData.int))]
      · exact min_of fun z => hn (List.map_eq_nil_iff.mp z)
      · rw [List.map_map]
        exact dLc_of (ds := F.map (stD S)) rfl (by rw [List.length_map]; omega) (lc_all (f := stD S) (g := PyData.int ∘ S) fun o _ => ⟨_, rfl, rfl⟩)
    have e5 : dLc (dItems (dVar 5)) (tgN 8) (dB (d2 eqD (d2 ixD (dVar 8) (dC (.int 0))) (dVar 4))) (d2 ixD (dVar 8) (dC (.int 1))) [8] ((lenv (bk m rows) (strT (tagsN n)) tg s3' (F.map (stD S)) (far.map strT) s7).set 4 (some (.int (lowF F S)))) = some (.list ((F.filter fun r => decide (S r = lowF F S)).map strT)) :=
      dLc_of (ds := F.map (stD S)) rfl (by rw [List.length_map]; omega) (lc_filter (f := stD S) (g := strT) fun o _ => ⟨_, rfl, dB_of (eqD_int _ _), fun _ => rfl⟩)
    rw [if_pos rfl]
    unfold nearD
    rw [if_neg hn]
    rw [next_of (o := some (.rt (.tuple [.int (lowF F S), .list ((F.filter fun r => decide (S r = lowF F S)).map strT)]))) e1' (next_of e2 (next_of e3' (seq_asg e4 (ret_of (tup2_of rfl e5)))))]
theorem good_set (B : BookOk n m rows) (hi : (namesN m)[i]? = some tg) (o : List Str) : goodB m (rows.set i o) = (goodF (farL m rows tg) && (farL m rows tg).all fun f => fitB f o) := by
  have hlt : i < m + 1 := by
    have := (List.getElem?_eq_some_iff.mp hi).1
    rwa [B.ns.2] at this
  rcases three B.hm B.len with ⟨rfl, a, rfl⟩ | ⟨rfl, a, b, rfl⟩ | ⟨rfl, a, b, c, rfl⟩
  · have : i = 0 := by omega
    subst this
    cases hi
    rfl
  · have : i = 0 ∨ i = 1 := by omega
    rcases this with rfl | rfl <;> cases hi
    · show (fitB o b && true) = (true && (fitB b o && true))
      rw [fitB_symm o b]
      cases fitB b o <;> rfl
    · rfl
  · have : i = 0 ∨ i = 1 ∨ i = 2 := by omega
    rcases this with rfl | rfl | rfl <;> cases hi
    · show (fitB o b && (fitB o c && (fitB b c && true))) = (fitB b c && (fitB b o && (fitB c o && true)))
      rw [fitB_symm o b, fitB_symm o c]
      cases fitB b o <;> cases fitB c o <;> cases fitB b c <;> rfl
    · show (fitB a o && (fitB a c && (fitB o c && true))) = (fitB a c && (fitB a o && (fitB c o && true)))
      rw [fitB_symm o c]
      cases fitB a o <;> cases fitB c o <;> cases fitB a c <;> rfl
    · show (fitB a b && (fitB a o && (fitB b o && true))) = (fitB a b && (fitB a o && (fitB b o && true)))
      rfl
/-- both give the same, and this is the same to _law_same -/
theorem near_both (B : BookOk n m rows) (hi : (namesN m)[i]? = some tg) : ∃ F S, m_nearest_lists [bookD (strT (tagsN n)) (bk m rows), .str tg] = some (nearD F S) ∧ m_law_nearest [.dict (bk m rows), strT (tagsN n), .str tg] = some (nearD F S) ∧ (∀ r ∈ F, R4 r) ∧ F.length ≤ 1000 := by
  have ht : tg ∈ namesN m := List.mem_of_getElem? hi
  obtain ⟨L, h1, h2, okL, nilL, lenL⟩ := all_lists_of B.hn
  refine ⟨L.filter fun o => goodB m (rows.set i o), stepsI (rowAt (namesN m) rows tg), near_of B hi h1 okL lenL, (law_near_of B ht h2 okL nilL lenL).trans ?_, fun r hr => R4.of (okL r (List.mem_filter.mp hr).1), Nat.le_trans (List.length_filter_le _ _) lenL⟩
  have e : (fun o => goodB m (rows.set i o)) = fun o => goodF (farL m rows tg) && (farL m rows tg).all fun f => fitB f o := funext fun o => good_set B hi o
  rw [e]
  cases goodF (farL m rows tg) with
  | true =>
    simp only [Bool.true_and, if_true]
  | false =>
    have : (L.filter fun o => false && (farL m rows tg).all fun f => fitB f o) = [] := List.filter_eq_nil_iff.mpr fun _ _ => by simp
    rw [this]
    rfl
end
end Od
end
section
set_option maxHeartbeats 8000000
/-! OdSame: _law_same of a datum and itself. -/
namespace Od
open PySem PySem.Spec PyProof.Rows L2
def sameOk : Nat → PyData → Bool
  | 0, _ => false
  | n + 1, .tuple ds => decide (ds.length ≤ 1000) && ds.all (sameOk n)
  | n + 1, .list ds => decide (ds.length ≤ 1000) && ds.all (sameOk n)
  | _ + 1, .dict _ => false
  | _ + 1, .str x => PyData.strOk x
  | _ + 1, _ => true
theorem pairs_self : ∀ (ds : List PyData), pairsOf ds ds = ds.map fun d => .tuple [d, d]
  | [] => rfl
  | d :: r => by rw [pairsOf, pairs_self r]; rfl
theorem bools_true {α : Type} : ∀ (ds : List α), boolsOf (ds.map fun _ => PyData.bool true) = some (ds.map fun _ => true)
  | [] => rfl
  | d :: r => by rw [List.map_cons, boolsOf, bools_true r]; rfl
theorem all_true {α : Type} (ds : List α) : allD [.list (ds.map fun _ => PyData.bool true)] = some (.bool true) := by
  show (match boolsOf (ds.map fun _ => PyData.bool true) with | some bs => some (PyData.bool (bs.all id)) | none => none) = _
  rw [bools_true]
  show some (PyData.bool ((ds.map fun _ => true).all id)) = _
  rw [List.all_map]
  exact congrArg (fun b => some (PyData.bool b)) (List.all_eq_true.mpr fun _ _ => rfl)
theorem and_of {t u : DE} {ρ : DEnv} {o : Option PyData} (h : t ρ = some (.bool true)) (k : u ρ = o) : dAnd t u ρ = o := by
  unfold dAnd
  rw [h]
  exact k
theorem same_seq {f : List PyData → Option PyData} {d : PyData} {ds : List PyData} (hd : d = .list ds ∨ d = .tuple ds) (hl : ds.length ≤ 1000) (h : ∀ x ∈ ds, f [x, x] = some (.bool true)) : runD 4 (t_law_same f) [d, d] = some (.bool true) := by
  have e1 : dLc (dZip (dVar 0) (dVar 1)) (tgT [2, 3]) dYes (dN f (dArgs [dVar 2, dVar 3])) [2, 3] [some d, some d, none, none] = some (.list (ds.map fun _ => PyData.bool true)) := by
    refine dLc_of (ds := ds.map fun d => .tuple [d, d]) ?_ (by rw [List.length_map]; omega) (lc_all (f := fun d => PyData.tuple [d, d]) (g := fun _ => PyData.bool true) fun x hx => ⟨_, rfl, (dN2 rfl rfl).trans (h x hx)⟩)
    rw [← pairs_self]
    rcases hd with rfl | rfl <;> rfl
  have e2 : dN allD (dArgs [dLc (dZip (dVar 0) (dVar 1)) (tgT [2, 3]) dYes (dN f (dArgs [dVar 2, dVar 3])) [2, 3]]) [some d, some d, none, none] = some (.bool true) := (dN1 e1).trans (all_true ds)
  have e3 : d2 eqD (dN lenD (dArgs [dVar 0])) (dN lenD (dArgs [dVar 1])) [some d, some d, none, none] = some (.bool true) := by
    have e : lenD [d] = some (.int (ds.length : Int)) := by rcases hd with rfl | rfl <;> rfl
    rw [d2_of ((dN1 rfl).trans e) ((dN1 rfl).trans e), eqD_int, decide_eq_true rfl]
  refine run_of ?_
  have e4 : dRet (dAnd (d2 eqD (dN lenD (dArgs [dVar 0])) (dN lenD (dArgs [dVar 1]))) (dN allD (dArgs [dLc (dZip (dVar 0) (dVar 1)) (tgT [2, 3]) dYes (dN f (dArgs [dVar 2, dVar 3])) [2, 3]]))) [some d, some d, none, none] = some (.rt (.bool true)) := ret_of (and_of e3 e2)
  show dSeq (dIfS _ (dSeq _ _) _) _ [some d, some d, none, none] = _
  unfold dSeq
  rw [ifT_of (by rcases hd with rfl | rfl <;> rfl)]
  rw [ifF_of (by rcases hd with rfl | rfl <;> rfl)]
  show (match (match dNext [some d, some d, none, none] with | some (.nx ρ') => _ | o => o) with | some (.nx ρ') => _ | o => o) = _
  unfold dNext
  dsimp only
  rw [e4]
theorem eq_self {x : Str} (h : PyData.strOk x = true) : eqD (.str x) (.str x) = some (.bool true) := by
  unfold eqD
  rw [if_pos (by simp [SeqAt.shaped, PyData.canLay0, PyData.depth, h]), eqv_str, decide_eq_true rfl]
theorem same_refl : ∀ {n : Nat} {d : PyData}, sameOk n d = true → f_law_same n [d, d] = some (.bool true)
  | 0, _, h => by cases h
  | n + 1, .tuple ds, h => by
    unfold sameOk at h
    rw [Bool.and_eq_true] at h
    exact same_seq (.inr rfl) (of_decide_eq_true h.1) fun x hx => same_refl (List.all_eq_true.mp h.2 x hx)
  | n + 1, .list ds, h => by
    unfold sameOk at h
    rw [Bool.and_eq_true] at h
    exact same_seq (.inl rfl) (of_decide_eq_true h.1) fun x hx => same_refl (List.all_eq_true.mp h.2 x hx)
  | n + 1, .dict _, h => by cases h
  | n + 1, .none, _ => rfl
  | n + 1, .bool b, _ => by cases b <;> rfl
  | n + 1, .int i, _ => by
    refine run_of (next_of (ρ1 := [some (.int i), some (.int i), none, none]) rfl (next_of (ρ1 := [some (.int i), some (.int i), none, none]) rfl (ret_of (and_of rfl (and_of rfl ?_)))))
    rw [d2_of (d := .int i) (e := .int i) rfl rfl, eqD_int, decide_eq_true rfl]
  | n + 1, .str x, h => by
    have e : dRet (dAnd (d2 eqD (dVar 0) (dVar 1)) (dAnd (d2 eqD (d1 (isiD "bool") (dVar 0)) (d1 (isiD "bool") (dVar 1))) (d2 eqD (d2 isD (dVar 0) (dC .none)) (d2 isD (dVar 1) (dC .none))))) [some (.str x), some (.str x), none, none] = some (.rt (.bool true)) :=
      ret_of (and_of ((d2_of (d := .str x) (e := .str x) rfl rfl).trans (eq_self h)) (and_of rfl rfl))
    refine run_of (next_of (ρ1 := [some (.str x), some (.str x), none, none]) rfl ?_)
    unfold dSeq
    rw [ifT_of (by rfl)]
    show (match dRet _ [some (.str x), some (.str x), none, none] with | some (.nx ρ') => _ | o => o) = _
    rw [e]
theorem same_law {d : PyData} (h : sameOk 7 d = true) : m_law_same [d, d] = some (.bool true) := same_refl h
theorem sameOk_strs {l : List Str} (h : ∀ x ∈ l, PyData.strOk x = true) (n : Nat) : (l.map PyData.str).all (sameOk (n + 1)) = true := by
  rw [List.all_map]
  exact List.all_eq_true.mpr fun x hx => h x hx
theorem sameOk_strT {l : List Str} (hl : l.length ≤ 1000) (h : ∀ x ∈ l, PyData.strOk x = true) (n : Nat) : sameOk (n + 2) (strT l) = true := by
  show (decide ((l.map PyData.str).length ≤ 1000) && (l.map PyData.str).all (sameOk (n + 1))) = true
  rw [sameOk_strs h, List.length_map, decide_eq_true hl]
  rfl
theorem sameOk_near {F : List (List Str)} {S : List Str → Int} (hF : ∀ r ∈ F, R4 r) (hl : F.length ≤ 1000) (n : Nat) : sameOk (n + 4) (nearD F S) = true := by
  unfold nearD
  by_cases h : F = []
  · rw [if_pos h] <;> rfl
  · rw [if_neg h]
    show (decide (2 ≤ 1000) && (sameOk (n + 3) (.int (lowF F S)) && (sameOk (n + 3) (.list ((F.filter fun r => decide (S r = lowF F S)).map strT)) && true))) = true
    have e : sameOk (n + 3) (.list ((F.filter fun r => decide (S r = lowF F S)).map strT)) = true := by
      show (decide (((F.filter fun r => decide (S r = lowF F S)).map strT).length ≤ 1000) && ((F.filter fun r => decide (S r = lowF F S)).map strT).all (sameOk (n + 2))) = true
      rw [decide_eq_true (by rw [List.length_map]; exact Nat.le_trans (List.length_filter_le _ _) hl), List.all_map]
      refine List.all_eq_true.mpr fun r hr => ?_
      have r4 := hF r (List.mem_filter.mp hr).1
      exact sameOk_strT (by have := r4.len; omega) r4.oks n
    rw [e]
    rfl
end Od
end
section
set_option maxHeartbeats 8000000
/-! OdUnl: unlike_payers; the pairs of a book. -/
namespace Od
open PySem PySem.Spec PyProof.Rows L2
section
variable {n m i : Nat} {rows : List (List Str)} {tg : Str} {r : List Str}
theorem keysD_bk (B : BookOk n m rows) : keysD (.dict (bk m rows)) = some (.list ((namesN m).map PyData.str)) := by
  have hm := B.hm
  show (if (bk m rows).length ≤ 1000000 then some (PyData.list ((bk m rows).map (·.1))) else none) = _
  unfold bk
  rw [if_pos (by rw [bookE_len B.ln, B.ns.2]; omega), keys_book B.ln]
theorem pairsE_at : ∀ {ns : List Str} {rows : List (List Str)}, ns.Nodup → rows.length = ns.length → pairsE (bookE ns rows) = ns.map fun x => .tuple [.str x, strT (rowAt ns rows x)]
  | [], [], _, _ => rfl
  | [], _ :: _, _, h => by cases h
  | _ :: _, [], _, h => by cases h
  | x :: ns, r :: rows, nd, hl => by
    obtain ⟨h1, h2⟩ := List.nodup_cons.mp nd
    show PyData.tuple [.str x, strT r] :: pairsE (bookE ns rows) = PyData.tuple [.str x, strT (if x = x then r else _)] :: ns.map fun y => PyData.tuple [.str y, strT (if x = y then r else rowAt ns rows y)]
    rw [if_pos rfl, pairsE_at h2 (Nat.succ.inj hl)]
    congr 1
    refine List.map_congr_left fun y hy => ?_
    rw [if_neg fun z => h1 (by rw [z]; exact hy)]
theorem law_pairs_bk (B : BookOk n m rows) : m_law_pairs [.dict (bk m rows)] = some (.tuple (pairsE (bk m rows))) := by
  have hm := B.hm
  refine run_of (ret_of ?_)
  rw [dN1 (f := tupD) (d := .list (pairsE (bk m rows)))]
  · rfl
  · unfold bk
    rw [pairsE_at B.ns.1 B.ln]
    refine dLc_of (ds := (namesN m).map PyData.str) ?_ (by rw [List.length_map, B.ns.2]; omega) (lc_all (f := PyData.str) (g := fun x => .tuple [.str x, strT (rowAt (namesN m) rows x)]) fun x hx => ⟨_, rfl, tup2_of rfl (get_at B.ln hx).1⟩)
    unfold dItems
    have e : dKeys 0 2 (env0 3 [.dict (bookE (namesN m) rows)]) = some (.list ((namesN m).map PyData.str)) := keysD_bk B
    rw [dN1 e]
    show (match sortL ((namesN m).map PyData.str) with | some (.list ds) => some ds | some (.tuple ds) => some ds | _ => none) = _
    rw [sort_names hm]
theorem host_bk (B : BookOk n m rows) : t_hostE (rhoB (strT (tagsN n)) (.dict (bk m rows))) = some (bookD (strT (tagsN n)) (bk m rows)) :=
  tup2_of rfl ((dN1 rfl).trans (law_pairs_bk B))
theorem tags_bk (B : BookOk n m rows) : t_tagsE (rhoB (strT (tagsN n)) (.dict (bk m rows))) = some (.list ((namesN m).map PyData.str)) := by
  have e : dKeys 9 13 (rhoB (strT (tagsN n)) (.dict (bk m rows))) = some (.list ((namesN m).map PyData.str)) := keysD_bk B
  exact (dN1 e).trans (sort_names B.hm)
theorem ne_self {l : List Str} (h : ∀ x ∈ l, PyData.strOk x = true) : neD (strT l) (strT l) = some (.bool false) := by
  rw [neD_strT h h, decide_eq_true rfl]
  rfl
theorem check_same_bk {rows2 : List (List Str)} (B : BookOk n m rows) (B2 : BookOk n m rows2) : m_check_same [bookD (strT (tagsN n)) (bk m rows), bookD (strT (tagsN n)) (bk m rows2)] = some .none := by
  refine run_nx (ρ := [some (bookD (strT (tagsN n)) (bk m rows)), some (bookD (strT (tagsN n)) (bk m rows2))]) (ifF_of ?_)
  have q1 : dB (d2 neD (dN m_bills (dArgs [dVar 0])) (dN m_bills (dArgs [dVar 1]))) (env0 2 [bookD (strT (tagsN n)) (bk m rows), bookD (strT (tagsN n)) (bk m rows2)]) = some false :=
    dB_of ((d2_of ((dN1 rfl).trans (bills_bk B.hn _)) ((dN1 rfl).trans (bills_bk B.hn _))).trans (ne_self (tagsN_ok B.hn)))
  have q2 : dB (d2 neD (dN m_payers (dArgs [dVar 0])) (dN m_payers (dArgs [dVar 1]))) (env0 2 [bookD (strT (tagsN n)) (bk m rows), bookD (strT (tagsN n)) (bk m rows2)]) = some false :=
    dB_of ((d2_of ((dN1 rfl).trans (payers_bk B _)) ((dN1 rfl).trans (payers_bk B2 _))).trans (ne_self fun x hx => (names_ok m B.hm x hx).1))
  unfold dOrT
  rw [q1]
  dsimp only
  rw [q2]
theorem filter_one {α : Type} [DecidableEq α] : ∀ {l : List α} {t : α}, l.Nodup → t ∈ l → l.filter (fun x => decide (x = t)) = [t]
  | [], _, _, h => by cases h
  | x :: l, t, nd, h => by
    obtain ⟨h1, h2⟩ := List.nodup_cons.mp nd
    rw [List.filter_cons]
    by_cases c : x = t
    · subst c
      rw [if_pos (decide_eq_true rfl)]
      congr 1
      refine List.filter_eq_nil_iff.mpr fun y hy => ?_
      rw [decide_eq_false fun z => h1 (by rw [← z]; exact hy)]
      exact Bool.false_ne_true
    · rw [if_neg (by rw [decide_eq_false c]; exact Bool.false_ne_true)]
      exact filter_one h2 ((List.mem_cons.mp h).resolve_left fun z => c z.symm)
/-- whose row is another one -/
def unl (tg : Str) (a r : List Str) : List Str := if a = r then [] else [tg]
theorem unlike_bk (B : BookOk n m rows) (hi : (namesN m)[i]? = some tg) (hr : RowOk (tagsN n) r) :
    m_unlike_payers [bookD (strT (tagsN n)) (bk m rows), bookD (strT (tagsN n)) (bk m (rows.set i r))] = some (strT (unl tg (rowAt (namesN m) rows tg) r)) := by
  have hm := B.hm
  have ht : tg ∈ namesN m := List.mem_of_getElem? hi
  have B2 := B.set hr i
  refine run_of (drop_of (d := .none) ((dN2 rfl rfl).trans (check_same_bk B B2)) (ret_of ?_))
  have e : ((namesN m).filter fun x => !decide (rowAt (namesN m) rows x = rowAt (namesN m) (rows.set i r) x)) = unl tg (rowAt (namesN m) rows tg) r := by
    have e1 : ((namesN m).filter fun x => !decide (rowAt (namesN m) rows x = rowAt (namesN m) (rows.set i r) x)) = (namesN m).filter fun x => decide (x = tg) && !decide (rowAt (namesN m) rows tg = r) := by
      refine List.filter_congr fun x _ => ?_
      rw [at_set x B.ns.1 hi B.ln]
      by_cases c : x = tg
      · subst c
        rw [if_pos rfl, decide_eq_true (rfl : x = x), Bool.true_and]
      · rw [if_neg c, decide_eq_true rfl, decide_eq_false c]
        rfl
    rw [e1]
    unfold unl
    by_cases c : rowAt (namesN m) rows tg = r
    · rw [if_pos c]
      exact List.filter_eq_nil_iff.mpr fun x _ => by simp [c]
    · rw [if_neg c, ← filter_one B.ns.1 ht]
      exact List.filter_congr fun x _ => by simp [c]
  rw [← e, dN1 (f := tupD) (d := .list (((namesN m).filter fun x => !decide (rowAt (namesN m) rows x = rowAt (namesN m) (rows.set i r) x)).map PyData.str))]
  · rfl
  · refine dLc_of (ds := (namesN m).map PyData.str) ?_ (by rw [List.length_map, B.ns.2]; omega) (lc_filter (f := PyData.str) (g := PyData.str) fun x hx => ⟨_, rfl, dB_of ?_, fun _ => rfl⟩)
    · unfold dItems
      rw [(dN1 rfl).trans (payers_bk B _)]
      rfl
    · rw [d2_of ((dN2 rfl rfl).trans (list_of_bk B _ hx)) ((dN2 rfl rfl).trans (list_of_bk B2 _ hx))]
      exact neD_R4 (R4.of (B.at_ok hx)) (R4.of (B2.at_ok hx))
end
end Od
end
section
set_option maxHeartbeats 8000000
/-! OdLayV: what is due when an amount is laid: laid and _law_lay. -/
namespace Od
open PySem PySem.Spec PyProof.Rows L2
def qE : List Str → List Int → Es
  | t :: ts, v :: vs => (.str t, .int v) :: qE ts vs
  | _, _ => []
theorem pairQ_qE : ∀ (ts : List Str) (vs : List Int), pairQ ts vs = pairsE (qE ts vs)
  | [], [] => rfl
  | [], _ :: _ => rfl
  | _ :: _, [] => rfl
  | t :: ts, v :: vs => congrArg (PyData.tuple [.str t, .int v] :: ·) (pairQ_qE ts vs)
theorem pairKv_qE : ∀ (ts : List Str) (vs : List Int), pairKv (pairQ ts vs) = some (qE ts vs)
  | [], [] => rfl
  | [], _ :: _ => rfl
  | _ :: _, [] => rfl
  | t :: ts, v :: vs => by
    show (match pairKv (pairQ ts vs) with | some es => some ((PyData.str t, PyData.int v) :: es) | none => none) = _
    rw [pairKv_qE ts vs] <;> rfl
theorem four {α : Type} {n : Nat} {l : List α} (hn : n < 4) (hl : l.length = n + 1) : (n = 0 ∧ ∃ a, l = [a]) ∨ (n = 1 ∧ ∃ a b, l = [a, b]) ∨ (n = 2 ∧ ∃ a b c, l = [a, b, c]) ∨ (n = 3 ∧ ∃ a b c d, l = [a, b, c, d]) := by
  match n, l, hl with
  | 0, [a], _ => exact .inl ⟨rfl, a, rfl⟩
  | 1, [a, b], _ => exact .inr (.inl ⟨rfl, a, b, rfl⟩)
  | 2, [a, b, c], _ => exact .inr (.inr (.inl ⟨rfl, a, b, c, rfl⟩))
  | 3, [a, b, c, d], _ => exact .inr (.inr (.inr ⟨rfl, a, b, c, d, rfl⟩))
  | n + 4, _, _ => omega
theorem get_qE : ∀ {ts : List Str} {vs : List Int} {b : Str}, b ∈ ts → vs.length = ts.length → getE (qE ts vs) b = some (.int (vs.getD (ixOf b ts) 0))
  | [], _, _, h, _ => by cases h
  | _ :: _, [], _, _, h => by cases h
  | t :: ts, v :: vs, b, h, hl => by
    show (if t = b then some (PyData.int v) else getE (qE ts vs) b) = _
    rw [ixOf]
    by_cases c : t = b
    · rw [if_pos c, if_pos c] <;> rfl
    · rw [if_neg c, if_neg c, get_qE ((List.mem_cons.mp h).resolve_left fun z => c z.symm) (Nat.succ.inj hl)]
      rfl
theorem set_qE_off : ∀ {ts : List Str} {vs : List Int} {b : Str} {d : PyData}, b ∉ ts → setE (qE ts vs) b d = qE ts vs
  | [], [], _, _, _ => rfl
  | [], _ :: _, _, _, _ => rfl
  | _ :: _, [], _, _, _ => rfl
  | t :: ts, v :: vs, b, d, h => by
    show (PyData.str t, if t = b then d else .int v) :: setE (qE ts vs) b d = (PyData.str t, .int v) :: qE ts vs
    rw [if_neg (fun z => h (by rw [z]; exact List.mem_cons_self)), set_qE_off fun z => h (List.mem_cons_of_mem _ z)]
theorem set_qE : ∀ {ts : List Str} {vs : List Int} {b : Str} {z : Int}, ts.Nodup → b ∈ ts → vs.length = ts.length → setE (qE ts vs) b (.int z) = qE ts (vs.set (ixOf b ts) z)
  | [], _, _, _, _, h, _ => by cases h
  | _ :: _, [], _, _, _, _, h => by cases h
  | t :: ts, v :: vs, b, z, nd, h, hl => by
    obtain ⟨h1, h2⟩ := List.nodup_cons.mp nd
    show (PyData.str t, if t = b then .int z else .int v) :: setE (qE ts vs) b (.int z) = _
    rw [ixOf]
    by_cases c : t = b
    · rw [if_pos c, if_pos c, set_qE_off (by rw [← c]; exact h1)] <;> rfl
    · rw [if_neg c, if_neg c, set_qE h2 ((List.mem_cons.mp h).resolve_left fun z => c z.symm) (Nat.succ.inj hl)]
      rfl
theorem put_qE {ts : List Str} {vs : List Int} {b : Str} {z : Int} (nd : ts.Nodup) (h : b ∈ ts) (hl : vs.length = ts.length) : putE (qE ts vs) b (.int z) = qE ts (vs.set (ixOf b ts) z) := by
  unfold putE
  rw [get_qE h hl]
  exact set_qE nd h hl
/-- what is due behind it -/
def layV (ts : List Str) : List Str → Int → List Int → List Int
  | [], _, vs => vs
  | b :: r, m, vs => layV ts r (m - (if m < vs.getD (ixOf b ts) 0 then m else vs.getD (ixOf b ts) 0)) (vs.set (ixOf b ts) (vs.getD (ixOf b ts) 0 - (if m < vs.getD (ixOf b ts) 0 then m else vs.getD (ixOf b ts) 0)))
theorem layV_len (ts : List Str) : ∀ (row : List Str) (m : Int) (vs : List Int), (layV ts row m vs).length = vs.length
  | [], _, _ => rfl
  | b :: r, m, vs => by rw [layV, layV_len ts r, List.length_set]
theorem lawGo_of {ts : List Str} (nd : ts.Nodup) : ∀ (row : List Str) (m : Int) (vs : List Int) (fd : List PyData), (∀ x ∈ row, x ∈ ts) → vs.length = ts.length → ∃ fd' m', lawGo (row.map PyData.str) m (qE ts vs) fd = some (fd', qE ts (layV ts row m vs), m')
  | [], m, vs, fd, _, _ => ⟨fd, m, rfl⟩
  | b :: r, m, vs, fd, h, hl => by
    have hb := h b List.mem_cons_self
    rw [List.map_cons, lawGo, get_qE hb hl]
    dsimp only
    rw [put_qE nd hb hl]
    exact lawGo_of nd r _ _ _ (fun x hx => h x (List.mem_cons_of_mem _ hx)) (by rw [List.length_set]; exact hl)
def pdP (p : Str × Int) : PyData := .tuple [.str p.1, .int p.2]
theorem set_getD : ∀ (vs : List Int) (i : Nat), vs.set i (vs.getD i 0) = vs
  | [], _ => rfl
  | v :: vs, 0 => rfl
  | v :: vs, i + 1 => congrArg (v :: ·) (set_getD vs i)
theorem getD_nn : ∀ (vs : List Int) (i : Nat), (∀ v ∈ vs, 0 ≤ v) → 0 ≤ vs.getD i 0
  | [], _, _ => Int.le_refl _
  | v :: vs, 0, h => h v List.mem_cons_self
  | v :: vs, i + 1, h => getD_nn vs i fun w hw => h w (List.mem_cons_of_mem _ hw)
theorem layGo_of {ts : List Str} (nd : ts.Nodup) : ∀ (row : List Str) (m : Int) (vs : List Int) (fd : List (Str × Int)), (∀ x ∈ row, x ∈ ts) → vs.length = ts.length → 0 ≤ m → (∀ v ∈ vs, 0 ≤ v) → ∃ fd' m', layGo (row.map PyData.str) m (qE ts vs) (fd.map pdP) = some ((fd' : List (Str × Int)).map pdP, qE ts (layV ts row m vs), m') ∧ fd'.length ≤ fd.length + row.length
  | [], m, vs, fd, _, _, _, _ => ⟨fd, m, rfl, by simp⟩
  | b :: r, m, vs, fd, h, hl, hm, hv => by
    have hb := h b List.mem_cons_self
    have hq := getD_nn vs (ixOf b ts) hv
    rw [List.map_cons, layGo, get_qE hb hl, layV]
    dsimp only
    generalize hqq : vs.getD (ixOf b ts) 0 = q at hq ⊢
    have hk : (if q < m then q else m) = if m < q then m else q := by
      by_cases c : q < m
      · rw [if_pos c, if_neg (by omega)]
      · by_cases c2 : m < q
        · rw [if_neg c, if_pos c2]
        · rw [if_neg c, if_neg c2]; omega
    have hk0 : 0 ≤ (if m < q then m else q) := by split <;> omega
    have hkm : (if m < q then m else q) ≤ m := by split <;> omega
    have hkq : (if m < q then m else q) ≤ q := by split <;> omega
    rw [hk]
    generalize (if m < q then m else q) = k at hk0 hkm hkq ⊢
    by_cases c : 0 < k
    · rw [if_pos c, put_qE nd hb hl]
      obtain ⟨fd', m', e, l⟩ := layGo_of nd r (m - k) (vs.set (ixOf b ts) (q - k)) (fd ++ [(b, k)]) (fun x hx => h x (List.mem_cons_of_mem _ hx)) (by rw [List.length_set]; exact hl) (by omega) (fun v hv' => by
        rcases List.mem_or_eq_of_mem_set hv' with z | z
        · exact hv v z
        · omega)
      refine ⟨fd', m', ?_, ?_⟩
      · rw [List.map_append] at e
        exact e
      · rw [List.length_append] at l
        simp only [List.length_cons, List.length_nil] at l ⊢
        omega
    · have k0 : k = 0 := by omega
      subst k0
      rw [if_neg c, Int.sub_zero, Int.sub_zero, ← hqq, set_getD]
      obtain ⟨fd', m', e, l⟩ := layGo_of nd r m vs fd (fun x hx => h x (List.mem_cons_of_mem _ hx)) hl hm hv
      refine ⟨fd', m', e, ?_⟩
      simp only [List.length_cons]
      omega
theorem sum_of_pairs (fd : List (Str × Int)) (h : fd.length ≤ 1000) : ∃ s, m_sum_of [.list (fd.map pdP)] = some (.int s) := by
  refine ⟨(fd.map (·.2)).sum, run_of (ret_of ?_)⟩
  rw [dN1 (d := .list ((fd.map (·.2)).map PyData.int))]
  · show (match intsOf ((fd.map (·.2)).map PyData.int) with | some bs => some (PyData.int bs.sum) | none => none) = _
    rw [ints_of]
  · rw [List.map_map]
    exact dLc_of (ds := fd.map pdP) rfl (by rw [List.length_map]; omega) (lc_all (f := pdP) (g := PyData.int ∘ fun p => p.2) fun p _ => ⟨_, rfl, rfl⟩)
section
variable {n m i : Nat} {rows : List (List Str)} {tg : Str} {qs : List Int}
theorem merge_qE (hn : n < 4) (hl : qs.length = n + 1) : mergeE [] (qE (tagsN n) qs) = qE (tagsN n) qs := by
  rcases four hn hl with ⟨rfl, a, rfl⟩ | ⟨rfl, a, b, rfl⟩ | ⟨rfl, a, b, c, rfl⟩ | ⟨rfl, a, b, c, d, rfl⟩ <;> rfl
theorem qE_len (hn : n < 4) (hl : qs.length = n + 1) : (qE (tagsN n) qs).length = n + 1 ∧ (pairQ (tagsN n) qs).length = n + 1 := by
  rcases four hn hl with ⟨rfl, a, rfl⟩ | ⟨rfl, a, b, rfl⟩ | ⟨rfl, a, b, c, rfl⟩ | ⟨rfl, a, b, c, d, rfl⟩ <;> exact ⟨rfl, rfl⟩
theorem isort_qE (hn : n < 4) (hl : qs.length = n + 1) : isort ((qE (tagsN n) qs).map itemD) = (qE (tagsN n) qs).map itemD ∧ strictly ((qE (tagsN n) qs).map itemD) = true ∧ alikeB ((qE (tagsN n) qs).map itemD) = true := by
  rcases four hn hl with ⟨rfl, a, rfl⟩ | ⟨rfl, a, b, rfl⟩ | ⟨rfl, a, b, c, rfl⟩ | ⟨rfl, a, b, c, d, rfl⟩ <;> exact ⟨rfl, rfl, rfl⟩
theorem mem_qE : ∀ {ts : List Str} {vs : List Int} {e : PyData × PyData}, e ∈ qE ts vs → ∃ x v, e = (.str x, .int v) ∧ x ∈ ts ∧ v ∈ vs
  | [], [], _, h => by cases h
  | [], _ :: _, _, h => by cases h
  | _ :: _, [], _, h => by cases h
  | n :: ns, r :: rows, e, h => by
    rcases List.mem_cons.mp h with h | h
    · exact ⟨n, r, h, List.mem_cons_self, List.mem_cons_self⟩
    · obtain ⟨x, a, h1, h2, h3⟩ := mem_qE h
      exact ⟨x, a, h1, List.mem_cons_of_mem _ h2, List.mem_cons_of_mem _ h3⟩
theorem sort_items_qE (hn : n < 4) (hl : qs.length = n + 1) : sortItemsD (.dict (qE (tagsN n) qs)) = some (.list (pairsE (qE (tagsN n) qs))) := by
  obtain ⟨h1, h2, h3⟩ := isort_qE hn hl
  show (if sortOk ((qE (tagsN n) qs).map itemD) then some (PyData.list (isort ((qE (tagsN n) qs).map itemD))) else none) = _
  rw [if_pos ?_, h1]
  · rfl
  · unfold sortOk
    have e1 : decide (((qE (tagsN n) qs).map itemD).length ≤ 1000000) = true := decide_eq_true (by rw [List.length_map, (qE_len hn hl).1]; omega)
    have e3 : ((qE (tagsN n) qs).map itemD).all (fun d => decide (d.depth ≤ 32) && d.canLay0) = true := by
      refine List.all_eq_true.mpr fun d hd => ?_
      obtain ⟨e, he, rfl⟩ := List.mem_map.mp hd
      obtain ⟨x, a, rfl, hx, _⟩ := mem_qE he
      unfold itemD
      simp only [PyData.depth, PyData.depthAll, PyData.canLay0, PyData.canLayAll0, tagsN_ok hn x hx]
      rfl
    rw [h1, h2, h3, items_kind, e1, e3]
    rfl
theorem tup_qE (hn : n < 4) (hl : qs.length = n + 1) : m_tupled [.tuple (pairQ (tagsN n) qs)] = some (.tuple (pairQ (tagsN n) qs)) := by
  refine tupled_fix (n := 7) ?_
  rcases four hn hl with ⟨rfl, a, rfl⟩ | ⟨rfl, a, b, rfl⟩ | ⟨rfl, a, b, c, rfl⟩ | ⟨rfl, a, b, c, d, rfl⟩ <;> rfl
theorem laid_bk (B : BookOk n m rows) (ht : tg ∈ namesN m) (hl : qs.length = n + 1) (hq : ∀ q ∈ qs, 0 ≤ q) {amt : Int} (ha : 0 ≤ amt) :
    ∃ s, m_laid [bookD (strT (tagsN n)) (bk m rows), .tuple (pairQ (tagsN n) qs), .str tg, .int amt] = some (.tuple [.tuple (pairsE (qE (tagsN n) (layV (tagsN n) (rowAt (namesN m) rows tg) amt qs))), .int s]) := by
  have hn := B.hn
  have hr := B.at_ok ht
  have lr := (R4.of hr).len
  have hlt : qs.length = (tagsN n).length := by rw [tagsN_len hn]; exact hl
  obtain ⟨fd, m', e, lf⟩ := layGo_of (tags_nd n hn).1 (rowAt (namesN m) rows tg) amt qs [] hr.2 hlt ha hq
  have lf : fd.length ≤ 0 + (rowAt (namesN m) rows tg).length := lf
  obtain ⟨s, es⟩ := sum_of_pairs fd (by omega)
  refine ⟨amt - s, ?_⟩
  unfold m_laid
  dsimp only
  rw [check_payer_bk B _ ht]
  dsimp only
  rw [tup_qE hn hl]
  dsimp only
  rw [if_pos (by rw [(qE_len hn hl).2]; omega), pairKv_qE]
  dsimp only
  rw [list_of_bk B _ ht]
  show (if ((rowAt (namesN m) rows tg).map PyData.str).length ≤ 1000 then match layGo ((rowAt (namesN m) rows tg).map PyData.str) amt (mergeE [] (qE (tagsN n) qs)) [] with | some (fd, es', _) => _ | none => none else none) = _
  have e : layGo ((rowAt (namesN m) rows tg).map PyData.str) amt (qE (tagsN n) qs) [] = some (fd.map pdP, qE (tagsN n) (layV (tagsN n) (rowAt (namesN m) rows tg) amt qs), m') := e
  rw [if_pos (by rw [List.length_map]; omega), merge_qE hn hl, e]
  dsimp only
  have hl' : (layV (tagsN n) (rowAt (namesN m) rows tg) amt qs).length = n + 1 := by rw [layV_len]; exact hl
  generalize layV (tagsN n) (rowAt (namesN m) rows tg) amt qs = vs at hl' ⊢
  have q : laidTail [some (bookD (strT (tagsN n)) (bk m rows)), some (.tuple (pairQ (tagsN n) qs)), some (.str tg), some (.int amt), some (.dict (qE (tagsN n) vs)), some (.list (fd.map pdP))] = some (.rt (.tuple [.tuple (pairsE (qE (tagsN n) vs)), .int (amt - s)])) := by
    refine ret_of (tup2_of ?_ ?_)
    · rw [dN1 ((d1_of rfl).trans (sort_items_qE hn hl'))]
      rfl
    · rw [d2_of (d := .int amt) (e := .int s) rfl ((dN1 rfl).trans es)]
      rfl
  rw [q]
theorem law_lay_bk (hn : n < 4) {row : List Str} (hr : RowOk (tagsN n) row) (hl : qs.length = n + 1) (amt : Int) :
    ∃ a b, m_law_lay [.tuple (pairQ (tagsN n) qs), strT row, .int amt] = some (.tuple [a, .dict (qE (tagsN n) (layV (tagsN n) row amt qs)), b]) := by
  have lr := (R4.of hr).len
  have hlt : qs.length = (tagsN n).length := by rw [tagsN_len hn]; exact hl
  obtain ⟨fd, m', e⟩ := lawGo_of (tags_nd n hn).1 row amt qs [] hr.2 hlt
  refine ⟨.tuple fd, .int m', ?_⟩
  show (if (pairQ (tagsN n) qs).length ≤ 1000 ∧ (row.map PyData.str).length ≤ 1000 then match pairKv (pairQ (tagsN n) qs) with | some es0 => _ | none => none else none) = _
  rw [if_pos ⟨by rw [(qE_len hn hl).2]; omega, by rw [List.length_map]; omega⟩, pairKv_qE]
  dsimp only
  rw [merge_qE hn hl]
  have e : lawGo (row.map PyData.str) amt (qE (tagsN n) qs) [] = some (fd, qE (tagsN n) (layV (tagsN n) row amt qs), m') := e
  rw [e]
end
end Od
end
section
set_option maxHeartbeats 8000000
/-! OdJudge: is_parting_payment and _law_judged of dues, a payer and an amount. -/
namespace Od
open PySem PySem.Spec PyProof.Rows L2
section
variable {n m i : Nat} {rows rows2 : List (List Str)} {tg : Str} {qs : List Int}
theorem eqv_qE : ∀ (ts : List Str) (v w : List Int), v.length = ts.length → w.length = ts.length → PyData.eqvAll (pairsE (qE ts v)) (pairsE (qE ts w)) = decide (v = w)
  | [], [], [], _, _ => rfl
  | [], _ :: _, _, h, _ => by cases h
  | [], [], _ :: _, _, h => by cases h
  | _ :: _, [], _, h, _ => by cases h
  | _ :: _, _ :: _, [], _, h => by cases h
  | t :: ts, a :: v, b :: w, h1, h2 => by
    show PyData.eqvAll (.tuple [.str t, .int a] :: pairsE (qE ts v)) (.tuple [.str t, .int b] :: pairsE (qE ts w)) = _
    rw [PyData.eqvAll, eqv_qE ts v w (Nat.succ.inj h1) (Nat.succ.inj h2), PyData.eqv, PyData.eqvAll, PyData.eqv, PyData.eqvAll, PyData.eqv, PyData.eqvAll]
    by_cases c : a = b
    · subst c
      by_cases c2 : v = w
      · subst c2; simp
      · simp [c2]
    · simp [c]
theorem shaped_qE (hn : n < 4) (v : List Int) : SeqAt.shaped (.tuple (pairsE (qE (tagsN n) v))) = true := by
  have h : ∀ (ts : List Str) (v : List Int), (∀ x ∈ ts, PyData.strOk x = true) → PyData.canLayAll0 (pairsE (qE ts v)) = true ∧ PyData.depthAll (pairsE (qE ts v)) ≤ 1 := by
    intro ts
    induction ts with
    | nil => intro v _; cases v <;> exact ⟨by show PyData.canLayAll0 [] = true; rw [PyData.canLayAll0], by show PyData.depthAll [] ≤ 1; rw [PyData.depthAll]; decide⟩
    | cons t ts ih =>
      intro v ht
      cases v with
      | nil => exact ⟨by show PyData.canLayAll0 [] = true; rw [PyData.canLayAll0], by show PyData.depthAll [] ≤ 1; rw [PyData.depthAll]; decide⟩
      | cons a v =>
        obtain ⟨h1, h2⟩ := ih v fun x hx => ht x (List.mem_cons_of_mem _ hx)
        constructor
        · show PyData.canLayAll0 (.tuple [.str t, .int a] :: pairsE (qE ts v)) = true
          simp only [PyData.canLayAll0, PyData.canLay0, h1, ht t List.mem_cons_self, Bool.and_self]
        · show PyData.depthAll (.tuple [.str t, .int a] :: pairsE (qE ts v)) ≤ 1
          simp only [PyData.depthAll, PyData.depth]
          omega
  obtain ⟨h1, h2⟩ := h (tagsN n) v (tagsN_ok hn)
  unfold SeqAt.shaped
  rw [PyData.canLay0, h1, PyData.depth, decide_eq_true (by omega)]
  rfl
theorem ne_qE (hn : n < 4) {v w : List Int} (hv : v.length = n + 1) (hw : w.length = n + 1) : neD (.tuple (pairsE (qE (tagsN n) v))) (.tuple (pairsE (qE (tagsN n) w))) = some (.bool (!decide (v = w))) := by
  unfold neD
  rw [shaped_qE hn, shaped_qE hn, PyData.eqv, eqv_qE _ _ _ (by rw [tagsN_len hn]; exact hv) (by rw [tagsN_len hn]; exact hw)]
  rfl
theorem ne_dict_qE (hn : n < 4) {v w : List Int} (hv : v.length = n + 1) (hw : w.length = n + 1) : neDictD (.dict (qE (tagsN n) v)) (.dict (qE (tagsN n) w)) = some (.bool (!decide (v = w))) := by
  rcases four hn hv with ⟨rfl, a, rfl⟩ | ⟨rfl, a, b, rfl⟩ | ⟨rfl, a, b, c, rfl⟩ | ⟨rfl, a, b, c, d, rfl⟩
  · obtain ⟨a', rfl⟩ : ∃ a', w = [a'] := by rcases four hn hw with ⟨_, a', h⟩ | ⟨h, _⟩ | ⟨h, _⟩ | ⟨h, _⟩ <;> first | exact ⟨a', h⟩ | cases h
    show some (PyData.bool (!(true && (a == a' && true)))) = _
    by_cases h1 : a = a' <;> simp [h1]
  · obtain ⟨a', b', rfl⟩ : ∃ a' b', w = [a', b'] := by rcases four hn hw with ⟨h, _⟩ | ⟨_, a', b', h⟩ | ⟨h, _⟩ | ⟨h, _⟩ <;> first | exact ⟨a', b', h⟩ | cases h
    show some (PyData.bool (!(true && (a == a' && (b == b' && true))))) = _
    by_cases h1 : a = a' <;> by_cases h2 : b = b' <;> simp [h1, h2]
  · obtain ⟨a', b', c', rfl⟩ : ∃ a' b' c', w = [a', b', c'] := by rcases four hn hw with ⟨h, _⟩ | ⟨h, _⟩ | ⟨_, a', b', c', h⟩ | ⟨h, _⟩ <;> first | exact ⟨a', b', c', h⟩ | cases h
    show some (PyData.bool (!(true && (a == a' && (b == b' && (c == c' && true)))))) = _
    by_cases h1 : a = a' <;> by_cases h2 : b = b' <;> by_cases h3 : c = c' <;> simp [h1, h2, h3]
  · obtain ⟨a', b', c', d', rfl⟩ : ∃ a' b' c' d', w = [a', b', c', d'] := by rcases four hn hw with ⟨h, _⟩ | ⟨h, _⟩ | ⟨h, _⟩ | ⟨_, a', b', c', d', h⟩ <;> first | exact ⟨a', b', c', d', h⟩ | cases h
    show some (PyData.bool (!(true && (a == a' && (b == b' && (c == c' && (d == d' && true))))))) = _
    by_cases h1 : a = a' <;> by_cases h2 : b = b' <;> by_cases h3 : c = c' <;> by_cases h4 : d = d' <;> simp [h1, h2, h3, h4]
/-! ### is_dues -/
theorem pairQ_zip : ∀ (ts : List Str) (vs : List Int), pairQ ts vs = (ts.zip vs).map pdP
  | [], [] => rfl
  | [], _ :: _ => rfl
  | _ :: _, [] => rfl
  | t :: ts, v :: vs => congrArg (PyData.tuple [.str t, .int v] :: ·) (pairQ_zip ts vs)
theorem tags_name : ∀ n, n < 4 → ∀ x ∈ tagsN n, m_is_name [.str x] = some (.bool true) := by
  have h : ∀ n, n < 4 → ∀ x ∈ tagsN n, boolOf (m_is_name [.str x]) = some true := by decide +kernel
  intro m hm x hx
  have h2 := h m hm x hx
  generalize m_is_name [.str x] = o at h2
  match o, h2 with
  | some (.bool b), h2 => cases h2; rfl
theorem is_amount_of {q : Int} (h : 0 ≤ q) : m_is_amount [.int q] = some (.bool true) := by
  refine run_of (ret_of (and_of rfl ?_))
  show some (PyData.bool (decide (0 ≤ q))) = _
  rw [decide_eq_true h]
theorem notT_of {c : DT} {ρ : DEnv} {b : Bool} (h : c ρ = some b) : dNotT c ρ = some (!b) := by
  unfold dNotT
  rw [h]
theorem is_pair_of (p : Str × Int) : m_is_pair [pdP p] = some (.bool true) := rfl
theorem are_amounts_of {ps : List (Str × Int)} (hl : ps.length ≤ 1000) (h : ∀ p ∈ ps, m_is_name [.str p.1] = some (.bool true) ∧ 0 ≤ p.2) : m_are_amounts [.tuple (ps.map pdP)] = some (.bool true) := by
  have e1 : dN allD (dArgs [dLc (dItems (dVar 0)) (tgN 3) dYes (dN m_is_pair (dArgs [dVar 3])) [3]]) [some (.tuple (ps.map pdP)), none, none, none] = some (.bool true) :=
    (dN1 (dLc_of (ds := ps.map pdP) (ys := ps.map fun _ => .bool true) rfl (by rw [List.length_map]; omega) (lc_all (f := pdP) (g := fun _ => PyData.bool true) fun p _ => ⟨_, rfl, (dN1 rfl).trans (is_pair_of p)⟩))).trans (all_true ps)
  have e2 : dN allD (dArgs [dLc (dItems (dVar 0)) (tgT [1, 2]) dYes (dAnd (dN m_is_name (dArgs [dVar 1])) (dN m_is_amount (dArgs [dVar 2]))) [1, 2]]) [some (.tuple (ps.map pdP)), none, none, none] = some (.bool true) :=
    (dN1 (dLc_of (ds := ps.map pdP) (ys := ps.map fun _ => .bool true) rfl (by rw [List.length_map]; omega) (lc_all (f := pdP) (g := fun _ => PyData.bool true) fun p hp => ⟨_, rfl, and_of ((dN1 rfl).trans (h p hp).1) ((dN1 rfl).trans (is_amount_of (h p hp).2))⟩))).trans (all_true ps)
  refine run_of (next_of (ρ1 := [some (.tuple (ps.map pdP)), none, none, none]) (ifF_of ?_) (ret_of e2))
  have q1 : dNotT (dB (d1 (isiD "tuple") (dVar 0))) (env0 4 [.tuple (ps.map pdP)]) = some false := rfl
  have q2 : dNotT (dB (dN allD (dArgs [dLc (dItems (dVar 0)) (tgN 3) dYes (dN m_is_pair (dArgs [dVar 3])) [3]]))) (env0 4 [.tuple (ps.map pdP)]) = some false := (notT_of (dB_of e1)).trans rfl
  unfold dOrT
  rw [q1]
  dsimp only
  rw [q2]
theorem zip_fst : ∀ {ts : List Str} {vs : List Int}, vs.length = ts.length → (ts.zip vs).map (fun p => PyData.str p.1) = ts.map PyData.str
  | [], [], _ => rfl
  | [], _ :: _, h => by cases h
  | _ :: _, [], h => by cases h
  | t :: ts, v :: vs, h => congrArg (PyData.str t :: ·) (zip_fst (Nat.succ.inj h))
theorem names_lc {i j : Nat} (ts : List Str) {vs : List Int} {ρ : DEnv} (t : DE) (hl : vs.length = ts.length) (h10 : ts.length ≤ 1000) (ht : t ρ = some (.tuple (pairQ ts vs))) (hi : i < ρ.length) (hij : i ≠ j) : dLc (dItems t) (tgT [i, j]) dYes (dVar i) [i, j] ρ = some (.list (ts.map PyData.str)) := by
  rw [← zip_fst hl]
  refine dLc_of (ds := (ts.zip vs).map pdP) ?_ (by rw [List.length_map, List.length_zip]; omega) (lc_all (f := pdP) (g := fun p => PyData.str p.1) fun p _ => ⟨((wipeE ρ [i, j]).set i (some (.str p.1))).set j (some (.int p.2)), rfl, ?_⟩)
  · unfold dItems
    rw [ht, pairQ_zip]
  · unfold dVar
    rw [List.getElem?_set_ne (Ne.symm hij), List.getElem?_set_self (by rw [wipeE_length]; exact hi)]
theorem is_dues_bk (hn : n < 4) (es : Es) (hl : qs.length = n + 1) (hq : ∀ q ∈ qs, 0 ≤ q) : m_is_dues [bookD (strT (tagsN n)) es, .tuple (pairQ (tagsN n) qs)] = some (.bool true) := by
  have hlt : qs.length = (tagsN n).length := by rw [tagsN_len hn]; exact hl
  have e1 : m_are_amounts [.tuple (pairQ (tagsN n) qs)] = some (.bool true) := by
    rw [pairQ_zip]
    refine are_amounts_of (by rw [List.length_zip]; omega) fun p hp => ?_
    obtain ⟨h1, h2⟩ := List.of_mem_zip hp
    exact ⟨tags_name n hn _ h1, hq _ h2⟩
  refine run_of (next_of (ρ1 := [some (bookD (strT (tagsN n)) es), some (.tuple (pairQ (tagsN n) qs)), none, none]) (ifF_of ?_) (ret_of ?_))
  · unfold dNotT
    rw [dB_of ((dN1 rfl).trans e1)]
    rfl
  · have e2 := names_lc (i := 2) (j := 3) (tagsN n) (ρ := [some (bookD (strT (tagsN n)) es), some (.tuple (pairQ (tagsN n) qs)), none, none]) (dVar 1) hlt (by rw [tagsN_len hn]; omega) rfl (by show 2 < 4; decide) (by decide)
    rw [d2_of (d := strT (tagsN n)) (e := strT (tagsN n)) ((dN1 e2).trans rfl) ((dN1 rfl).trans (bills_bk hn es)), eqD_strT (tagsN_ok hn) (tagsN_ok hn), decide_eq_true rfl]
def thingD (ts : List Str) (qs : List Int) (tg : Str) (amt : Int) : PyData := .tuple [.tuple (pairQ ts qs), .str tg, .int amt]
theorem orF_of {c d : DT} {ρ : DEnv} {o : Option Bool} (h : c ρ = some false) (k : d ρ = o) : dOrT c d ρ = o := by
  unfold dOrT
  rw [h]
  exact k
theorem is_parting_bk (B : BookOk n m rows) (B2 : BookOk n m rows2) (ht : tg ∈ namesN m) (hl : qs.length = n + 1) (hq : ∀ q ∈ qs, 0 ≤ q) {amt : Int} (ha : 0 ≤ amt) :
    m_is_parting_payment [bookD (strT (tagsN n)) (bk m rows), bookD (strT (tagsN n)) (bk m rows2), thingD (tagsN n) qs tg amt] = some (.bool (!decide (layV (tagsN n) (rowAt (namesN m) rows tg) amt qs = layV (tagsN n) (rowAt (namesN m) rows2 tg) amt qs))) := by
  have hn := B.hn
  obtain ⟨s1, e1⟩ := laid_bk B ht hl hq ha
  obtain ⟨s2, e2⟩ := laid_bk B2 ht hl hq ha
  refine run_of (drop_of (d := .none) ((dN2 rfl rfl).trans (check_same_bk B B2)) ?_)
  refine next_of (ρ1 := [some (bookD (strT (tagsN n)) (bk m rows)), some (bookD (strT (tagsN n)) (bk m rows2)), some (thingD (tagsN n) qs tg amt), none, none, none]) (ifF_of ?_) ?_
  · refine orF_of rfl (orF_of ?_ ?_)
    · rfl
    · exact (notT_of (dB_of ((dN2 rfl rfl).trans (is_dues_bk hn _ hl hq)))).trans rfl
  · refine next_of (ρ1 := [some (bookD (strT (tagsN n)) (bk m rows)), some (bookD (strT (tagsN n)) (bk m rows2)), some (thingD (tagsN n) qs tg amt), some (.tuple (pairQ (tagsN n) qs)), some (.str tg), some (.int amt)]) rfl ?_
    refine next_of (ρ1 := [some (bookD (strT (tagsN n)) (bk m rows)), some (bookD (strT (tagsN n)) (bk m rows2)), some (thingD (tagsN n) qs tg amt), some (.tuple (pairQ (tagsN n) qs)), some (.str tg), some (.int amt)]) (ifF_of ?_) (ret_of ?_)
    · refine orF_of ((notT_of (dB_of ((dN1 rfl).trans (names_ok m B.hm tg ht).2))).trans rfl) (orF_of ?_ (orF_of rfl ?_))
      · refine dB_of ?_
        rw [d2_of (d := .str tg) (e := strT (namesN m)) rfl ((dN1 rfl).trans (payers_bk B _)), notInD_strT, decide_eq_true ht]
        rfl
      · refine dB_of ?_
        show some (PyData.bool (decide (amt < 0))) = _
        rw [decide_eq_false (by omega)]
    · have q : ∀ (k : Nat) (bk' : PyData) (x : PyData) (s : Int), m_laid [bk', .tuple (pairQ (tagsN n) qs), .str tg, .int amt] = some (.tuple [x, .int s]) → ∀ ρ : DEnv, dVar k ρ = some bk' → ρ[3]? = some (some (.tuple (pairQ (tagsN n) qs))) → ρ[4]? = some (some (.str tg)) → ρ[5]? = some (some (.int amt)) → d2 ixD (dN m_laid (dArgs [dVar k, dVar 3, dVar 4, dVar 5])) (dC (.int 0)) ρ = some x := by
        intro k bk' x s e ρ hk h3 h4 h5
        rw [d2_of (d := .tuple [x, .int s]) (e := .int 0) ?_ rfl]
        · rfl
        · have d3 : dVar 3 ρ = some (.tuple (pairQ (tagsN n) qs)) := by unfold dVar; rw [h3]
          have d4 : dVar 4 ρ = some (.str tg) := by unfold dVar; rw [h4]
          have d5 : dVar 5 ρ = some (.int amt) := by unfold dVar; rw [h5]
          unfold dN
          rw [show dArgs [dVar k, dVar 3, dVar 4, dVar 5] ρ = some [bk', .tuple (pairQ (tagsN n) qs), .str tg, .int amt] by simp only [dArgs, hk, d3, d4, d5]]
          exact e
      rw [d2_of (q 0 _ _ _ e1 _ rfl rfl rfl rfl) (q 1 _ _ _ e2 _ rfl rfl rfl rfl)]
      exact ne_qE hn (by rw [layV_len]; exact hl) (by rw [layV_len]; exact hl)
theorem dict_bk (B : BookOk n m rows) : dictD [.tuple (pairsE (bk m rows))] = some (.dict (bk m rows)) := by
  have hm := B.hm
  show (if (pairsE (bk m rows)).length ≤ 1000000 then match pairKv (pairsE (bk m rows)) with | some es => some (PyData.dict (mergeE [] es)) | none => none else none) = _
  rw [if_pos (by unfold pairsE bk; rw [List.length_map, bookE_len B.ln, B.ns.2]; omega), show pairKv (pairsE (bk m rows)) = some (bk m rows) from pairKv_es]
  show some (PyData.dict (mergeE [] (bk m rows))) = _
  rw [merge_bk hm B.len]
theorem judged_bk (B : BookOk n m rows) (B2 : BookOk n m rows2) (ht : tg ∈ namesN m) (hl : qs.length = n + 1) (amt : Int) :
    m_law_judged [bookD (strT (tagsN n)) (bk m rows), bookD (strT (tagsN n)) (bk m rows2), thingD (tagsN n) qs tg amt] = some (.bool (!decide (layV (tagsN n) (rowAt (namesN m) rows tg) amt qs = layV (tagsN n) (rowAt (namesN m) rows2 tg) amt qs))) := by
  have hn := B.hn
  have hlt : qs.length = (tagsN n).length := by rw [tagsN_len hn]; exact hl
  refine run_of (next_of (ρ1 := [some (bookD (strT (tagsN n)) (bk m rows)), some (bookD (strT (tagsN n)) (bk m rows2)), some (thingD (tagsN n) qs tg amt), none, none, none, none, none, none]) rfl ?_)
  refine next_of (ρ1 := [some (bookD (strT (tagsN n)) (bk m rows)), some (bookD (strT (tagsN n)) (bk m rows2)), some (thingD (tagsN n) qs tg amt), none, some (.tuple (pairQ (tagsN n) qs)), some (.str tg), some (.int amt), none, none]) rfl ?_
  refine next_of (ρ1 := [some (bookD (strT (tagsN n)) (bk m rows)), some (bookD (strT (tagsN n)) (bk m rows2)), some (thingD (tagsN n) qs tg amt), none, some (.tuple (pairQ (tagsN n) qs)), some (.str tg), some (.int amt), none, none]) (ifF_of ?_) ?_
  · refine dB_of ?_
    have q := names_lc (i := 7) (j := 8) (tagsN n) (ρ := [some (bookD (strT (tagsN n)) (bk m rows)), some (bookD (strT (tagsN n)) (bk m rows2)), some (thingD (tagsN n) qs tg amt), none, some (.tuple (pairQ (tagsN n) qs)), some (.str tg), some (.int amt), none, none]) (dVar 4) hlt (by rw [tagsN_len hn]; omega) rfl (by show 7 < 9; decide) (by decide)
    rw [d2_of (e := .list ((tagsN n).map PyData.str)) q ((dN1 rfl).trans rfl)]
    have e : PyData.eqv (.list ((tagsN n).map PyData.str)) (.list ((tagsN n).map PyData.str)) = true := by rw [PyData.eqv, eqv_all, decide_eq_true rfl]
    unfold neD
    rw [shaped_list (tagsN_ok hn), e]
    rfl
  · have step : ∀ (rs : List (List Str)) (a b : PyData) (v : List Int), BookOk n m rs → m_law_lay [.tuple (pairQ (tagsN n) qs), strT (rowAt (namesN m) rs tg), .int amt] = some (.tuple [a, .dict (qE (tagsN n) v), b]) →
        d2 ixD (dN m_law_lay (dArgs [dVar 4, d2 dgetD (dN dictD (dArgs [d2 ixD (dVar 7) (dC (.int 1))])) (dVar 5), dVar 6])) (dC (.int 1)) [some (bookD (strT (tagsN n)) (bk m rows)), some (bookD (strT (tagsN n)) (bk m rows2)), some (thingD (tagsN n) qs tg amt), none, some (.tuple (pairQ (tagsN n) qs)), some (.str tg), some (.int amt), some (bookD (strT (tagsN n)) (bk m rs)), none] = some (.dict (qE (tagsN n) v)) := by
      intro rs a b v Br e
      rw [d2_of (d := .tuple [a, .dict (qE (tagsN n) v), b]) (e := .int 1) ?_ rfl]
      · rfl
      · refine (dN3 rfl ?_ rfl).trans e
        rw [d2_of (d := .dict (bk m rs)) (e := .str tg) ((dN1 rfl).trans (dict_bk Br)) rfl]
        exact (get_at Br.ln ht).1
    have e3 : dLc (dItems (dTup [dVar 0, dVar 1])) (tgN 7) dYes (d2 ixD (dN m_law_lay (dArgs [dVar 4, d2 dgetD (dN dictD (dArgs [d2 ixD (dVar 7) (dC (.int 1))])) (dVar 5), dVar 6])) (dC (.int 1))) [7] [some (bookD (strT (tagsN n)) (bk m rows)), some (bookD (strT (tagsN n)) (bk m rows2)), some (thingD (tagsN n) qs tg amt), none, some (.tuple (pairQ (tagsN n) qs)), some (.str tg), some (.int amt), none, none] =
        some (.list [.dict (qE (tagsN n) (layV (tagsN n) (rowAt (namesN m) rows tg) amt qs)), .dict (qE (tagsN n) (layV (tagsN n) (rowAt (namesN m) rows2 tg) amt qs))]) := by
      refine dLc_of (ds := [rows, rows2].map fun rs => bookD (strT (tagsN n)) (bk m rs)) (ys := [rows, rows2].map fun rs => .dict (qE (tagsN n) (layV (tagsN n) (rowAt (namesN m) rs tg) amt qs))) rfl (by show 2 ≤ 1000000; decide) (lc_all (f := fun rs => bookD (strT (tagsN n)) (bk m rs)) (g := fun rs => PyData.dict (qE (tagsN n) (layV (tagsN n) (rowAt (namesN m) rs tg) amt qs))) fun rs hrs => ⟨_, rfl, ?_⟩)
      have Br : BookOk n m rs := by
        rcases List.mem_cons.mp hrs with h | h
        · rw [h]; exact B
        · rw [List.mem_singleton.mp h]; exact B2
      obtain ⟨a, b, e⟩ := law_lay_bk hn (Br.at_ok ht) hl amt
      exact step rs a b _ Br e
    refine seq_asg e3 (ret_of ?_)
    rw [d2_of (d := .dict (qE (tagsN n) (layV (tagsN n) (rowAt (namesN m) rows tg) amt qs))) (e := .dict (qE (tagsN n) (layV (tagsN n) (rowAt (namesN m) rows2 tg) amt qs))) rfl rfl]
    exact ne_dict_qE hn (by rw [layV_len]; exact hl) (by rw [layV_len]; exact hl)
end
end Od
end
section
set_option maxHeartbeats 8000000
/-! OdPart: parting_payment. -/
namespace Od
open PySem PySem.Spec PyProof.Rows L2
def cpG (a b : List Str) : Nat → Nat → Nat
  | 0, k => k
  | f + 1, k => if k < a.length ∧ k < b.length ∧ a[k]? = b[k]? then cpG a b f (k + 1) else k
def cnd : DT := dAndT (dB (d2 ltD (dVar 3) (dN lenD (dArgs [dVar 5])))) (dAndT (dB (d2 ltD (dVar 3) (dN lenD (dArgs [dVar 6])))) (dB (d2 eqD (d2 ixD (dVar 5) (dVar 3)) (d2 ixD (dVar 6) (dVar 3)))))
def penv (h f u : PyData) (k : Nat) (a b : List Str) : DEnv := [some h, some f, some u, some (.int (k : Nat)), none, some (strT a), some (strT b), none]
theorem at_strT {a : List Str} {k : Nat} (h : k < a.length) : ixD (strT a) (.int (k : Nat)) = some (.str a[k]) := by
  show atI (a.map PyData.str) ((k : Nat) : Int) = _
  unfold atI ixN
  rw [if_pos (by omega), if_pos (by rw [List.length_map]; omega)]
  show (a.map PyData.str)[((k : Nat) : Int).toNat]? = _
  rw [Int.toNat_natCast, List.getElem?_map, List.getElem?_eq_getElem h]
  rfl
theorem lt_len (a : List Str) (k : Nat) {ρ : DEnv} {j : Nat} (h3 : dVar 3 ρ = some (.int (k : Nat))) (hj : dVar j ρ = some (strT a)) : dB (d2 ltD (dVar 3) (dN lenD (dArgs [dVar j]))) ρ = some (decide (k < a.length)) := by
  refine dB_of ?_
  rw [d2_of (d := .int (k : Nat)) (e := .int ((a.map PyData.str).length : Nat)) h3 ((dN1 hj).trans rfl)]
  show some (PyData.bool (decide (((k : Nat) : Int) < (((a.map PyData.str).length : Nat) : Int)))) = _
  rw [List.length_map]
  congr 2
  rw [decide_eq_decide]
  omega
theorem eq_str {x y : Str} (hx : PyData.strOk x = true) (hy : PyData.strOk y = true) : eqD (.str x) (.str y) = some (.bool (decide (x = y))) := by
  unfold eqD
  rw [if_pos (by simp [SeqAt.shaped, PyData.canLay0, PyData.depth, hx, hy]), eqv_str]
theorem cnd_of {a b : List Str} (ha : R4 a) (hb : R4 b) (h f u : PyData) (k : Nat) : cnd (penv h f u k a b) = some (decide (k < a.length ∧ k < b.length ∧ a[k]? = b[k]?)) := by
  unfold cnd dAndT
  rw [lt_len a k (ρ := penv h f u k a b) (j := 5) rfl rfl]
  by_cases h1 : k < a.length
  · rw [decide_eq_true h1]
    dsimp only
    rw [lt_len b k (ρ := penv h f u k a b) (j := 6) rfl rfl]
    by_cases h2 : k < b.length
    · rw [decide_eq_true h2]
      dsimp only
      rw [dB_of ((d2_of (d := .str a[k]) (e := .str b[k]) (at_strT h1) (at_strT h2)).trans (eq_str (ha.oks _ (List.getElem_mem h1)) (hb.oks _ (List.getElem_mem h2))))]
      congr 1
      rw [decide_eq_decide, List.getElem?_eq_getElem h1, List.getElem?_eq_getElem h2]
      exact ⟨fun z => ⟨h1, h2, congrArg some z⟩, fun z => Option.some.inj z.2.2⟩
    · rw [decide_eq_false h2, decide_eq_false fun z => h2 z.2.1]
  · rw [decide_eq_false h1, decide_eq_false fun z => h1 z.1]
theorem wh_of {a b : List Str} (ha : R4 a) (hb : R4 b) (h f u : PyData) : ∀ (g k : Nat), k ≤ a.length → a.length < g + k → whGo cnd (dAsg 3 (d2 addD (dVar 3) (dC (.int 1)))) g (penv h f u k a b) = some (.nx (penv h f u (cpG a b g k) a b))
  | 0, k, h1, h2 => by omega
  | g + 1, k, h1, h2 => by
    unfold whGo
    rw [cnd_of ha hb]
    by_cases c : k < a.length ∧ k < b.length ∧ a[k]? = b[k]?
    · rw [decide_eq_true c]
      dsimp only
      have e : dAsg 3 (d2 addD (dVar 3) (dC (.int 1))) (penv h f u k a b) = some (.nx (penv h f u (k + 1) a b)) := rfl
      rw [e]
      dsimp only
      rw [wh_of ha hb h f u g (k + 1) (by omega) (by omega), cpG, if_pos c]
    · rw [decide_eq_false c, cpG, if_neg c]
def cut1 (a : List Str) (p : Nat) : List Str := (a.drop (min p a.length)).take (min (p + 1) a.length - min p a.length)
theorem cut_one (a : List Str) (p : Nat) : cutL (a.map PyData.str) (some ((p : Nat) : Int)) (some (((p : Nat) : Int) + 1)) = (cut1 a p).map PyData.str := by
  unfold cutL cut1
  rw [HT.sIx_nat, show ((p : Nat) : Int) + 1 = ((p + 1 : Nat) : Int) by omega, HT.sIx_nat, List.length_map, List.map_take, List.map_drop]
def unp (a b : List Str) : List Str := cut1 a (cpG a b 100 0) ++ (cut1 b (cpG a b 100 0) ++ [])
def dueQ (ts a b : List Str) : List Int := ts.map fun t => if decide (t ∈ unp a b) then 1 else 0
theorem pairQ_map (f : Str → Int) : ∀ ts : List Str, pairQ ts (ts.map f) = ts.map fun t => .tuple [.str t, .int (f t)]
  | [] => rfl
  | t :: ts => congrArg (PyData.tuple [.str t, .int (f t)] :: ·) (pairQ_map f ts)
theorem cut1_len (a : List Str) (p : Nat) : (cut1 a p).length ≤ 1 := by
  unfold cut1
  rw [List.length_take]
  omega
section
variable {n m i : Nat} {rows : List (List Str)} {tg : Str} {r : List Str}
theorem parting_same (B : BookOk n m rows) (hi : (namesN m)[i]? = some tg) (hr : RowOk (tagsN n) r) (h : rowAt (namesN m) rows tg = r) :
    m_parting_payment [bookD (strT (tagsN n)) (bk m rows), bookD (strT (tagsN n)) (bk m (rows.set i r))] = some .none := by
  have e := unlike_bk B hi hr
  unfold unl at e
  rw [if_pos h] at e
  refine run_of (seq_asg ((dN2 rfl rfl).trans e) ?_)
  unfold dSeq
  rw [ifT_of (by rfl)]
  rfl
theorem parting_unlike (B : BookOk n m rows) (hi : (namesN m)[i]? = some tg) (hr : RowOk (tagsN n) r) (h : rowAt (namesN m) rows tg ≠ r) :
    m_parting_payment [bookD (strT (tagsN n)) (bk m rows), bookD (strT (tagsN n)) (bk m (rows.set i r))] = some (thingD (tagsN n) (dueQ (tagsN n) (rowAt (namesN m) rows tg) r) tg 1) := by
  have hn := B.hn
  have ht : tg ∈ namesN m := List.mem_of_getElem? hi
  have B2 := B.set hr i
  have hr1 := R4.of (B.at_ok ht)
  have hr2 := R4.of hr
  have g1 := list_of_bk B (strT (tagsN n)) ht
  have g2 := list_of_bk B2 (strT (tagsN n)) ht
  rw [at_set tg B.ns.1 hi B.ln, if_pos rfl] at g2
  have e := unlike_bk B hi hr
  unfold unl at e
  rw [if_neg h] at e
  generalize rowAt (namesN m) rows tg = a at *
  have hb := bills_bk hn (bk m rows)
  generalize bookD (strT (tagsN n)) (bk m rows) = host at *
  generalize bookD (strT (tagsN n)) (bk m (rows.set i r)) = far at *
  refine run_of (seq_asg ((dN2 rfl rfl).trans e) (next_of (ρ1 := [some host, some far, some (strT [tg]), none, none, none, none, none]) (ifF_of (by rfl)) ?_))
  have e1 : dPar 5 6 (dN m_list_of (dArgs [dVar 0, d2 ixD (dVar 2) (dC (.int 0))])) (dN m_list_of (dArgs [dVar 1, d2 ixD (dVar 2) (dC (.int 0))])) [some host, some far, some (strT [tg]), none, none, none, none, none] = some (.nx [some host, some far, some (strT [tg]), none, none, some (strT a), some (strT r), none]) := by
    unfold dPar
    rw [(dN2 (f := m_list_of) (t := dVar 0) (u := d2 ixD (dVar 2) (dC (.int 0))) (ρ := [some host, some far, some (strT [tg]), none, none, none, none, none]) (d := host) (e := .str tg) rfl rfl).trans g1]
    dsimp only
    rw [(dN2 (f := m_list_of) (t := dVar 1) (u := d2 ixD (dVar 2) (dC (.int 0))) (ρ := [some host, some far, some (strT [tg]), none, none, none, none, none]) (d := far) (e := .str tg) rfl rfl).trans g2]
    rfl
  have la := hr1.len
  have e2 := wh_of hr1 hr2 host far (strT [tg]) 100 0 (by omega) (by omega)
  have l1 := cut1_len a (cpG a r 100 0)
  have l2 := cut1_len r (cpG a r 100 0)
  have e3 : dLstA (dStar (dSl (dVar 5) (dPart (dVar 3)) (dPart (d2 addD (dVar 3) (dC (.int 1))))) (dStar (dSl (dVar 6) (dPart (dVar 3)) (dPart (d2 addD (dVar 3) (dC (.int 1))))) (fun _ => some []))) (penv host far (strT [tg]) (cpG a r 100 0) a r) = some (.list ((unp a r).map PyData.str)) := by
    have q1 : dSl (dVar 5) (dPart (dVar 3)) (dPart (d2 addD (dVar 3) (dC (.int 1)))) (penv host far (strT [tg]) (cpG a r 100 0) a r) = some (.tuple ((cut1 a (cpG a r 100 0)).map PyData.str)) := by
      rw [← cut_one]
      rfl
    have q2 : dSl (dVar 6) (dPart (dVar 3)) (dPart (d2 addD (dVar 3) (dC (.int 1)))) (penv host far (strT [tg]) (cpG a r 100 0) a r) = some (.tuple ((cut1 r (cpG a r 100 0)).map PyData.str)) := by
      rw [← cut_one]
      rfl
    unfold dLstA dStar
    rw [q1]
    dsimp only
    rw [q2]
    dsimp only
    unfold unp
    rw [if_pos (by simp only [List.length_append, List.length_map, List.length_nil]; omega), List.map_append, List.map_append]
    rfl
  refine next_of e1 (seq_asg (d := .int 0) rfl (next_of e2 (seq_asg e3 (ret_of (tup3_of ?_ rfl rfl)))))
  show dN tupD _ [some host, some far, some (strT [tg]), some (.int (cpG a r 100 0 : Nat)), some (.list ((unp a r).map PyData.str)), some (strT a), some (strT r), none] = _
  unfold dueQ
  rw [pairQ_map, dN1 (f := tupD) (d := .list ((tagsN n).map fun t => .tuple [.str t, .int (if decide (t ∈ unp a r) then 1 else 0)]))]
  · rfl
  · refine dLc_of (ds := (tagsN n).map PyData.str) ?_ (by rw [List.length_map, tagsN_len hn]; omega) (lc_all (f := PyData.str) (g := fun t => .tuple [.str t, .int (if decide (t ∈ unp a r) then 1 else 0)]) fun t _ => ⟨_, rfl, tup2_of rfl ?_⟩)
    · unfold dItems
      rw [(dN1 rfl).trans hb]
      rfl
    · rw [dN1 ((d2_of (d := .str t) (e := .list ((unp a r).map PyData.str)) rfl rfl).trans (inD_strL t (unp a r)))]
      rfl
end
theorem part_tab : ∀ n, n < 4 → ∀ a ∈ rowsN n, ∀ b ∈ rowsN n, a = b ∨ layV (tagsN n) a 1 (dueQ (tagsN n) a b) ≠ layV (tagsN n) b 1 (dueQ (tagsN n) a b) := by decide +kernel
theorem part_ne {n : Nat} (hn : n < 4) {a b : List Str} (ha : RowOk (tagsN n) a) (hb : RowOk (tagsN n) b) (h : a ≠ b) : layV (tagsN n) a 1 (dueQ (tagsN n) a b) ≠ layV (tagsN n) b 1 (dueQ (tagsN n) a b) :=
  (part_tab n hn a (rowsN_mem hn ha) b (rowsN_mem hn hb)).resolve_left h
theorem dueQ_nn (ts a b : List Str) : ∀ q ∈ dueQ ts a b, 0 ≤ q := fun q hq => by
  obtain ⟨t, _, rfl⟩ := List.mem_map.mp hq
  split <;> decide
theorem dueQ_len (ts a b : List Str) : (dueQ ts a b).length = ts.length := List.length_map _
end Od
end
section
set_option maxHeartbeats 8000000
/-! OdTurn: the plain law of one turn. -/
namespace Od
open PySem PySem.Spec PyProof.Rows L2
theorem ne_bool (x y : Bool) : neD (.bool x) (.bool y) = some (.bool (x != y)) := by
  cases x <;> cases y <;> rfl
theorem andT_of {c d : DT} {ρ : DEnv} {o : Option Bool} (h : c ρ = some true) (k : d ρ = o) : dAndT c d ρ = o := by
  unfold dAndT
  rw [h]
  exact k
theorem andF_of {c d : DT} {ρ : DEnv} (h : c ρ = some false) : dAndT c d ρ = some false := by
  unfold dAndT
  rw [h]
def turnEnv (tg late got goal paper T Bk host far : PyData) (b : Bool) : DEnv := [none, none, some tg, some late, some got, some goal, some paper, none, some T, some Bk, some host, some far, some (.bool b), none]
section
variable {n m i : Nat} {rows : List (List Str)} {tg : Str} {row : List Str}
theorem turn_mid (B : BookOk n m rows) (hi : (namesN m)[i]? = some tg) (hr : RowOk (tagsN n) row) :
    ∃ got goal paper b, midD (rhoL (strT (tagsN n)) (.dict (bk m rows)) (bookD (strT (tagsN n)) (bk m rows)) (.str tg) (.dict (bk m (rows.set i row)))) =
      some (.nx (turnEnv (.str tg) (.dict (bk m (rows.set i row))) got goal paper (strT (tagsN n)) (.dict (bk m rows)) (bookD (strT (tagsN n)) (bk m rows)) (bookD (strT (tagsN n)) (bk m (rows.set i row))) b)) := by
  have hn := B.hn
  have hm := B.hm
  have ht : tg ∈ namesN m := List.mem_of_getElem? hi
  have B2 := B.set hr i
  have ha := B.at_ok ht
  have ha4 := R4.of ha
  have hr4 := R4.of hr
  have tok := (names_ok m hm tg ht).1
  obtain ⟨F, S, n1, n2, okF, lF⟩ := near_both B hi
  have gB := (get_at B.ln ht).1
  have gL := (get_at B2.ln ht).1
  rw [at_set tg B.ns.1 hi B.ln, if_pos rfl] at gL
  have gB : dgetD (.dict (bk m rows)) (.str tg) = some (strT (rowAt (namesN m) rows tg)) := gB
  have gL : dgetD (.dict (bk m (rows.set i row))) (.str tg) = some (strT row) := gL
  have st := steps_of ha4 hr4
  have un := unlike_bk B hi hr
  have lp := law_pairs_bk B2
  have pS := parting_same B hi hr
  have pU := parting_unlike B hi hr
  have jU := judged_bk (tg := tg) (qs := dueQ (tagsN n) (rowAt (namesN m) rows tg) row) B B2 ht (by rw [dueQ_len, tagsN_len hn]) 1
  have iU := is_parting_bk (tg := tg) (qs := dueQ (tagsN n) (rowAt (namesN m) rows tg) row) B B2 ht (by rw [dueQ_len, tagsN_len hn]) (dueQ_nn _ _ _) (amt := 1) (by decide)
  rw [at_set tg B.ns.1 hi B.ln, if_pos rfl] at jU iU
  have hne := part_ne hn ha hr
  generalize hT : strT (tagsN n) = T at *
  generalize rowAt (namesN m) rows tg = a at *
  generalize hh : bookD T (bk m rows) = host at *
  have hfar : bookD T (bk m (rows.set i row)) = .tuple [T, .tuple (pairsE (bk m (rows.set i row)))] := rfl
  generalize hf : bookD T (bk m (rows.set i row)) = far at *
  generalize hl : PyData.dict (bk m (rows.set i row)) = late at *
  generalize PyData.dict (bk m rows) = Bk at *
  -- what it is
  have e5 : t_right5 (rhoL T Bk host (.str tg) late) = some (.nx [none, none, some (.str tg), some late, none, none, none, none, some T, some Bk, some host, some far, some (.bool (!decide (row = a))), none]) := by
    unfold t_right5 dPar
    rw [tup2_of (ρ := rhoL T Bk host (.str tg) late) (d := T) (e := .tuple (pairsE (bk m (rows.set i row)))) rfl ((dN1 rfl).trans lp)]
    dsimp only
    rw [(d2_of (f := neD) (t := d2 dgetD (dVar 3) (dVar 2)) (u := d2 dgetD (dVar 9) (dVar 2)) (ρ := rhoL T Bk host (.str tg) late) ((d2_of rfl rfl).trans gL) ((d2_of rfl rfl).trans gB)).trans (neD_R4 hr4 ha4), ← hfar]
    rfl
  generalize hb : (!decide (row = a)) = b at e5
  have e6 : t_right6 [none, none, some (.str tg), some late, none, none, none, none, some T, some Bk, some host, some far, some (.bool b), none] = some (.nx [none, none, some (.str tg), some late, some (.list [nearD F S, strT (unl tg a row), .int (stepsI a row)]), none, none, none, some T, some Bk, some host, some far, some (.bool b), none]) :=
    (asg_of (lst3_of ((dN2 rfl rfl).trans n1) ((dN2 rfl rfl).trans un) ((dN2 ((d2_of rfl rfl).trans gB) ((d2_of rfl rfl).trans gL)).trans st.1))).trans rfl
  have eu : strT (unl tg a row) = if b then .tuple [.str tg] else .tuple [] := by
    rw [← hb]
    unfold unl
    by_cases c : a = row
    · rw [if_pos c, decide_eq_true c.symm] <;> rfl
    · rw [if_neg c, decide_eq_false fun z => c z.symm] <;> rfl
  generalize hg6 : PyData.list [nearD F S, strT (unl tg a row), .int (stepsI a row)] = got at e6
  have e7 : t_right7 [none, none, some (.str tg), some late, some got, none, none, none, some T, some Bk, some host, some far, some (.bool b), none] = some (.nx [none, none, some (.str tg), some late, some got, some (.list [nearD F S, strT (unl tg a row)]), none, none, some T, some Bk, some host, some far, some (.bool b), none]) := by
    refine (asg_of (lst2_of ((dN3 rfl rfl rfl).trans n2) (e := strT (unl tg a row)) ?_)).trans rfl
    rw [eu]
    cases b <;> rfl
  have e8 : t_right8 [none, none, some (.str tg), some late, some got, some (.list [nearD F S, strT (unl tg a row)]), none, none, some T, some Bk, some host, some far, some (.bool b), none] = some (.nx [none, none, some (.str tg), some late, some got, some got, none, none, some T, some Bk, some host, some far, some (.bool b), none]) := by
    refine (asg_of (d := got) ?_).trans rfl
    rw [d2_of (d := .list [nearD F S, strT (unl tg a row)]) (e := .list [.int (stepsI a row)]) rfl (lst1_of ((dN2 ((d2_of rfl rfl).trans gB) ((d2_of rfl rfl).trans gL)).trans st.2)), ← hg6]
    rfl
  have same : m_law_same [got, got] = some (.bool true) := by
    refine same_law ?_
    rw [← hg6]
    have q1 : sameOk 6 (nearD F S) = true := sameOk_near okF lF 2
    have q2 : sameOk 6 (strT (unl tg a row)) = true := sameOk_strT (by unfold unl; split <;> simp) (fun x hx => by
      unfold unl at hx
      split at hx
      · cases hx
      · rw [List.mem_singleton.mp hx]; exact tok) 4
    show (decide (3 ≤ 1000) && (sameOk 6 (nearD F S) && (sameOk 6 (strT (unl tg a row)) && (sameOk 6 (.int (stepsI a row)) && true)))) = true
    rw [q1, q2]
    rfl
  by_cases c : a = row
  · have hb' : b = false := by rw [← hb, decide_eq_true c.symm]; rfl
    subst hb'
    have e9 : t_right9 [none, none, some (.str tg), some late, some got, some got, none, none, some T, some Bk, some host, some far, some (.bool false), none] = some (.nx (turnEnv (.str tg) late got got .none T Bk host far false)) :=
      (asg_of ((dN2 rfl rfl).trans (pS c))).trans rfl
    have e10 : t_right10 (turnEnv (.str tg) late got got .none T Bk host far false) = some (.nx (turnEnv (.str tg) late got got .none T Bk host far false)) := by
      refine (ifF_of (orF_of ((notT_of (dB_of ((dN2 rfl rfl).trans same))).trans rfl) (dB_of ?_))).trans rfl
      rfl
    have e11 : t_right11 (turnEnv (.str tg) late got got .none T Bk host far false) = some (.nx (turnEnv (.str tg) late got got .none T Bk host far false)) := (ifF_of (andF_of rfl)).trans rfl
    have e12 : t_right12 (turnEnv (.str tg) late got got .none T Bk host far false) = some (.nx (turnEnv (.str tg) late got got .none T Bk host far false)) := (ifF_of (andF_of rfl)).trans rfl
    exact ⟨got, got, .none, false, next_of e5 (next_of e6 (next_of e7 (next_of e8 (next_of e9 (next_of e10 (next_of e11 e12))))))⟩
  · have hb' : b = true := by rw [← hb, decide_eq_false fun z => c z.symm]; rfl
    subst hb'
    have hd : (!decide (layV (tagsN n) a 1 (dueQ (tagsN n) a row) = layV (tagsN n) row 1 (dueQ (tagsN n) a row))) = true := by
      rw [decide_eq_false (hne c)]
      rfl
    rw [hd] at jU iU
    have hpn : isNoneD (thingD (tagsN n) (dueQ (tagsN n) a row) tg 1) = false := rfl
    have pU := pU c
    generalize thingD (tagsN n) (dueQ (tagsN n) a row) tg 1 = paper at *
    have e9 : t_right9 [none, none, some (.str tg), some late, some got, some got, none, none, some T, some Bk, some host, some far, some (.bool true), none] = some (.nx (turnEnv (.str tg) late got got paper T Bk host far true)) :=
      (asg_of ((dN2 rfl rfl).trans pU)).trans rfl
    have e10 : t_right10 (turnEnv (.str tg) late got got paper T Bk host far true) = some (.nx (turnEnv (.str tg) late got got paper T Bk host far true)) := by
      refine (ifF_of (orF_of ((notT_of (dB_of ((dN2 rfl rfl).trans same))).trans rfl) (dB_of ?_))).trans rfl
      rw [d2_of (d := .bool (isNoneD paper)) (e := .bool false) rfl rfl, hpn]
      rfl
    have e11 : t_right11 (turnEnv (.str tg) late got got paper T Bk host far true) = some (.nx (turnEnv (.str tg) late got got paper T Bk host far true)) :=
      (ifF_of (andT_of rfl ((notT_of (dB_of ((dN3 rfl rfl rfl).trans jU))).trans rfl))).trans rfl
    have e12 : t_right12 (turnEnv (.str tg) late got got paper T Bk host far true) = some (.nx (turnEnv (.str tg) late got got paper T Bk host far true)) :=
      (ifF_of (andT_of rfl ((notT_of (dB_of ((dN3 rfl rfl rfl).trans iU))).trans rfl))).trans rfl
    exact ⟨got, got, paper, true, next_of e5 (next_of e6 (next_of e7 (next_of e8 (next_of e9 (next_of e10 (next_of e11 e12))))))⟩
end
theorem turn_law : TurnLaw := by
  intro n m rows hn hm hl hok
  have B : BookOk n m rows := ⟨hn, hm, hl, hok⟩
  refine ⟨bookD (strT (tagsN n)) (bk m rows), host_bk B, tags_bk B, fun tg row htg hrow => ?_⟩
  obtain ⟨i, hi⟩ := List.getElem?_of_mem htg
  have hi : (namesN m)[i]? = some tg := hi
  have B2 := B.set hrow i
  obtain ⟨got, goal, paper, b, e⟩ := turn_mid B hi hrow
  have el : putE (bookE (nameL.take (m + 1)) rows) tg (strT row) = bk m (rows.set i row) := put_book B.ns.1 hi B.ln
  rw [el]
  refine ⟨_, e, rfl, rfl, rfl, fun qs amt hq hq2 h0 h1 => ?_⟩
  have e1 := is_parting_bk (tg := tg) B B2 htg hq (fun q hqq => (hq2 q hqq).1) h0
  have e2 := judged_bk (tg := tg) B B2 htg hq amt
  refine ⟨_, (ifF_of (dB_of ?_)).trans rfl, rfl⟩
  rw [d2_of ((dN3 rfl rfl rfl).trans e1) ((dN3 rfl rfl rfl).trans e2), ne_bool]
  simp
end Od
end
section
set_option maxHeartbeats 8000000
/-! OdEnd: the promises joined; the head; the end. -/
namespace Od
open PySem PySem.Spec PyProof.Rows L2
section
variable {P : Program} {w : World} {K : PySem.W.Frag} {mg : Str → Option Value} {base : Heap} {C : Addr}
theorem def_mk {h : Heap} {x : Str} {st : Stmt} {f : Addr} {oc : Value} {od an : Option Addr} {osl : Array (Option Value)} {kV doc pm cdv ct : Value} (X : K.In h) (G : h.Ns mainGlobals mg) (a : PySem.W.nsIn K mainGlobals x = some (some (.ref f)))
    (l : K.lookup f = some ⟨oc, od, .func (PySem.W.fnOf x x (defArgs st) (defBody st) (defScope st) .none kV doc pm an cdv ct), osl⟩) (c : PySem.W.codeIn K cdv x = true) (k : PySem.W.keepIn K (.ref f) = true) : DefAt K mg x st :=
  ⟨f, _, fun_mk l c k, PySem.W.mg_of X G a⟩
theorem with_def {h : Heap} {R : Prop} {x : Str} {st : Stmt} {f : Addr} {oc : Value} {od an : Option Addr} {osl : Array (Option Value)} {kV doc pm cdv ct : Value} (X : K.In h) (G : h.Ns mainGlobals mg) (a : PySem.W.nsIn K mainGlobals x = some (some (.ref f)))
    (l : K.lookup f = some ⟨oc, od, .func (PySem.W.fnOf x x (defArgs st) (defBody st) (defScope st) .none kV doc pm an cdv ct), osl⟩) (c : PySem.W.codeIn K cdv x = true) (k : PySem.W.keepIn K (.ref f) = true) (next : DefAt K mg x st → R) : R := next (def_mk X G a l c k)
theorem all_ok {fl : Addr} {fdl : FuncData} (T : Bl mg) (Cc : Cs mg) (O : OthC K mg C)
    (F_is_number : DefAt K mg "is_number" s_is_number)
    (F_is_amount : DefAt K mg "is_amount" s_is_amount)
    (F_is_name : DefAt K mg "is_name" s_is_name)
    (F_is_pair : DefAt K mg "is_pair" s_is_pair)
    (F_set_of : DefAt K mg "set_of" s_set_of)
    (F_tupled : DefAt K mg "tupled" s_tupled)
    (F_bills : DefAt K mg "bills" s_bills)
    (F_payers : DefAt K mg "payers" s_payers)
    (F_lists_table : DefAt K mg "lists_table" s_lists_table)
    (F_check_payer : DefAt K mg "check_payer" s_check_payer)
    (F_check_bills : DefAt K mg "check_bills" s_check_bills)
    (F_list_of : DefAt K mg "list_of" s_list_of)
    (F_with_table : DefAt K mg "with_table" s_with_table)
    (F_with_list : DefAt K mg "with_list" s_with_list)
    (F_are_amounts : DefAt K mg "are_amounts" s_are_amounts)
    (F_is_dues : DefAt K mg "is_dues" s_is_dues)
    (F_sum_of : DefAt K mg "sum_of" s_sum_of)
    (F_rest_of : DefAt K mg "rest_of" s_rest_of)
    (F_odd_bills : DefAt K mg "odd_bills" s_odd_bills)
    (F_agree : DefAt K mg "agree" s_agree)
    (F_odd_pairs : DefAt K mg "odd_pairs" s_odd_pairs)
    (F_is_good : DefAt K mg "is_good" s_is_good)
    (F_good_with : DefAt K mg "good_with" s_good_with)
    (F_lay_on : DefAt K mg "lay_on" s_lay_on)
    (F_laid : DefAt K mg "laid" s_laid)
    (F_law_lay : DefAt K mg "_law_lay" s_law_lay)
    (F_fewest_steps : DefAt K mg "fewest_steps" s_fewest_steps)
    (F_all_lists : DefAt K mg "all_lists" s_all_lists)
    (F_check_same : DefAt K mg "check_same" s_check_same)
    (F_nearest_lists : DefAt K mg "nearest_lists" s_nearest_lists)
    (F_unlike_payers : DefAt K mg "unlike_payers" s_unlike_payers)
    (F_parting_payment : DefAt K mg "parting_payment" s_parting_payment)
    (F_is_parting_payment : DefAt K mg "is_parting_payment" s_is_parting_payment)
    (F_law_lists : DefAt K mg "_law_lists" s_law_lists)
    (F_law_same : DefAt K mg "_law_same" s_law_same)
    (F_law_rest : DefAt K mg "_law_rest" s_law_rest)
    (F_law_fit : DefAt K mg "_law_fit" s_law_fit)
    (F_law_bills : DefAt K mg "_law_bills" s_law_bills)
    (F_law_pairs : DefAt K mg "_law_pairs" s_law_pairs)
    (F_law_judged : DefAt K mg "_law_judged" s_law_judged)
    (F_law_all : DefAt K mg "_law_all" s_law_all)
    (F_law_steps : DefAt K mg "_law_steps" s_law_steps)
    (F_law_nearest : DefAt K mg "_law_nearest" s_law_nearest)
    (F_law_take : DefAt K mg "_law_take" s_law_take)
    (F_law_of : DefAt K mg "_law_of" s_law_of)
    (F_law_row : DefAt K mg "_law_row" s_law_row)
    (F_law_box : DefAt K mg "_law_box" s_law_box)
    (F_law_cells : DefAt K mg "_law_cells" s_law_cells)
    (F_law_heard : DefAt K mg "_law_heard" s_law_heard)
    (F_law_by_hand_right : DefAt K mg "_law_by_hand_right" s_hand)
    (F_law_right : DefAt K mg "_law_right" s_law_right)
    (Fl : Fun K "law" "law" s_law fl fdl) : FnOk P w K mg base CX0 17 fl fdl ["_law_script"] (spLaw K) := by
  have D_is_number := ok_is_number (P := P) (w := w) (base := base) T F_is_number
  have D_is_amount := ok_is_amount (P := P) (w := w) (base := base) T F_is_amount D_is_number
  have D_is_name := ok_is_name (P := P) (w := w) (base := base) T Cc F_is_name
  have D_is_pair := ok_is_pair (P := P) (w := w) (base := base) T Cc F_is_pair
  have D_set_of := ok_set_of (P := P) (w := w) (base := base) T F_set_of
  have D_tupled := ok_tupled (P := P) (w := w) (base := base) T F_tupled
  have D_bills := ok_bills (P := P) (w := w) (base := base) T F_bills D_tupled
  have D_payers := ok_payers (P := P) (w := w) (base := base) T F_payers
  have D_lists_table := ok_lists_table (P := P) (w := w) (base := base) T F_lists_table D_tupled
  have D_check_payer := ok_check_payer (P := P) (w := w) (base := base) T F_check_payer D_payers
  have D_check_bills := ok_check_bills (P := P) (w := w) (base := base) T F_check_bills D_bills
  have D_list_of := ok_list_of (P := P) (w := w) (base := base) T F_list_of D_lists_table D_check_payer
  have D_with_table := ok_with_table (P := P) (w := w) (base := base) T F_with_table D_set_of
  have D_with_list := ok_with_list (P := P) (w := w) (base := base) T F_with_list D_with_table D_bills D_lists_table D_tupled D_check_bills D_check_payer
  have D_are_amounts := ok_are_amounts (P := P) (w := w) (base := base) T F_are_amounts D_is_name D_is_amount D_is_pair
  have D_is_dues := ok_is_dues (P := P) (w := w) (base := base) T F_is_dues D_bills D_are_amounts
  have D_sum_of := ok_sum_of (P := P) (w := w) (base := base) T F_sum_of
  have D_rest_of := ok_rest_of (P := P) (w := w) (base := base) T F_rest_of
  have D_odd_bills := ok_odd_bills (P := P) (w := w) (base := base) T F_odd_bills D_rest_of D_tupled
  have D_agree := ok_agree (P := P) (w := w) (base := base) T F_agree D_odd_bills
  have D_odd_pairs := ok_odd_pairs (P := P) (w := w) (base := base) T F_odd_pairs D_agree D_lists_table
  have D_is_good := ok_is_good (P := P) (w := w) (base := base) T F_is_good D_odd_pairs
  have D_good_with := ok_good_with (P := P) (w := w) (base := base) T F_good_with D_is_good D_with_list
  have D_lay_on := ok_lay_on (P := P) (w := w) (base := base) T F_lay_on
  have D_laid := ok_laid (P := P) (w := w) (base := base) T F_laid D_check_payer D_tupled D_list_of D_lay_on D_sum_of
  have D_law_lay := ok_law_lay (P := P) (w := w) (base := base) T F_law_lay
  have D_fewest_steps := ok_fewest_steps (P := P) (w := w) (base := base) T F_fewest_steps
  have D_all_lists := ok_all_lists (P := P) (w := w) (base := base) T F_all_lists
  have D_check_same := ok_check_same (P := P) (w := w) (base := base) T F_check_same D_bills D_payers
  have D_nearest_lists := ok_nearest_lists (P := P) (w := w) (base := base) T F_nearest_lists D_all_lists D_bills D_good_with D_fewest_steps D_list_of D_check_payer
  have D_unlike_payers := ok_unlike_payers (P := P) (w := w) (base := base) T F_unlike_payers D_payers D_list_of D_check_same
  have D_parting_payment := ok_parting_payment (P := P) (w := w) (base := base) T F_parting_payment D_bills D_list_of D_unlike_payers
  have D_is_parting_payment := ok_is_parting_payment (P := P) (w := w) (base := base) T F_is_parting_payment D_laid D_is_name D_payers D_is_number D_is_dues D_check_same
  have D_law_lists := ok_law_lists (P := P) (w := w) (base := base) T F_law_lists
  have D_law_same := ok_law_same (P := P) (w := w) (base := base) T F_law_same
  have D_law_rest := ok_law_rest (P := P) (w := w) (base := base) T F_law_rest
  have D_law_fit := ok_law_fit (P := P) (w := w) (base := base) T F_law_fit D_law_rest
  have D_law_bills := ok_law_bills (P := P) (w := w) (base := base) T F_law_bills
  have D_law_pairs := ok_law_pairs (P := P) (w := w) (base := base) T F_law_pairs
  have D_law_judged := ok_law_judged (P := P) (w := w) (base := base) T F_law_judged D_law_lay
  have D_law_all := ok_law_all (P := P) (w := w) (base := base) T F_law_all
  have D_law_steps := ok_law_steps (P := P) (w := w) (base := base) T F_law_steps
  have D_law_nearest := ok_law_nearest (P := P) (w := w) (base := base) T F_law_nearest D_law_all D_law_fit D_law_steps
  have D_law_take := ok_law_take (P := P) (w := w) (base := base) T F_law_take
  have D_law_of := ok_law_of (P := P) (w := w) (base := base) T F_law_of D_law_take
  have D_law_row := ok_law_row (P := P) (w := w) (base := base) T F_law_row D_law_take
  have D_law_box := ok_law_box (P := P) (w := w) (base := base) T F_law_box
  have D_law_cells := ok_law_cells (P := P) (w := w) (base := base) T F_law_cells
  have X_check_same := okX_check_same (P := P) (w := w) (base := base) O F_check_same D_bills D_payers
  have X_unlike_payers := okX_unlike_payers (P := P) (w := w) (base := base) F_unlike_payers X_check_same
  have X_parting_payment := okX_parting_payment (P := P) (w := w) (base := base) F_parting_payment X_unlike_payers
  have X_is_parting_payment := okX_is_parting_payment (P := P) (w := w) (base := base) F_is_parting_payment X_check_same
  have D_law_heard := law_heard_ok (P := P) (w := w) (base := base) T O F_law_heard D_unlike_payers D_parting_payment D_is_parting_payment X_unlike_payers X_parting_payment X_is_parting_payment
  have D_law_by_hand_right := hand_ok (P := P) (w := w) (base := base) T F_law_by_hand_right D_nearest_lists D_unlike_payers D_fewest_steps D_parting_payment D_is_parting_payment D_law_lists D_law_judged D_law_heard D_law_same
  have D_law_right := law_right_ok (P := P) (w := w) (base := base) turn_law T F_law_right D_law_by_hand_right D_law_take D_law_of D_law_row D_law_bills D_law_pairs D_nearest_lists D_unlike_payers D_fewest_steps D_law_nearest D_law_steps D_parting_payment D_law_same D_law_judged D_is_parting_payment
  exact law_ok T Fl D_law_cells D_law_box D_law_right
end
theorem cs_mk {K : PySem.W.Frag} {mg : Str → Option Value} {h : Heap} {v1 v2 v3 : Value} (X : K.In h) (G : h.Ns mainGlobals mg) (a1 : PySem.W.nsIn K mainGlobals "PAIR" = some (some v1)) (a2 : PySem.W.nsIn K mainGlobals "LONGEST" = some (some v2)) (a3 : PySem.W.nsIn K mainGlobals "LETTERS" = some (some v3))
    (h1 : ∃ t, v1 = .int 2 t) (h2 : ∃ t, v2 = .int 8 t) (h3 : ∃ t, v3 = .str (Str.ofString "abcdefghijklmnopqrstuvwxyz") t) : Cs mg := by
  obtain ⟨t1, rfl⟩ := h1
  obtain ⟨t2, rfl⟩ := h2
  obtain ⟨t3, rfl⟩ := h3
  exact ⟨⟨_, PySem.W.mg_of X G a1⟩, ⟨_, PySem.W.mg_of X G a2⟩, ⟨_, PySem.W.mg_of X G a3⟩⟩
theorem kit_ve {K : PySem.W.Frag} {C : Addr} (h : PySem.W.subIn K (.ref C) (.type "ValueError") = some true) : PySem.W.kitOne K (.ref C) (.type "ValueError") = some true := by
  have e : PySem.W.kitMeta "ValueError" = true := by decide +kernel
  unfold PySem.W.kitOne
  rw [if_neg (by intro z; exact Bool.noConfusion (z.symm.trans (show (Value.ref C == Value.type "ValueError") = false from rfl)))]
  show (if PySem.W.kitMeta "ValueError" = true then PySem.W.subIn K (.ref C) (.type "ValueError") else none) = _
  rw [if_pos e, h]
theorem exm_self {K : PySem.W.Frag} {S : Addr} (h1 : PySem.W.subIn K (.ref S) (.type "BaseException") = some true) (h2 : PySem.W.hasDictIn K S = true) (h3 : PySem.W.typeIn K (.ref S) = some (.type "type")) (h4 : PySem.W.subIn K (.ref S) (.ref S) = some true) : PySem.W.exmOne K (.ref S) (.ref S) = some true := PySem.W.exm_ref h1 h2 h3 h4
theorem walk {l : PySem.W.OpenLaw} {q : Program} {loose : List Str} {XP : (Str → Option Value) → Heap → Prop} {YP : World → Heap → Prop} {d : DefRec} {K : Params → PySem.W.Frag} (hn : l.most = some 63) (hdf : d.params.defaults = [])
    (hY : ∀ (w : World) (h : Heap), YP w h → (K w.params).In h)
    (F : ∀ (w : World) (mg : Str → Option Value) (fa : Addr) (h : Heap), (K w.params).In h → h.Ns mainGlobals mg → mg d.name = some (.ref fa) →
      ∃ fd : FuncData, (∀ (s : Shared) (u : Value), BindsTo s fd ⟨[u], []⟩ [("_law_script", u)]) ∧ ∀ base : Heap, (K w.params).In base → base.Ns mainGlobals mg → FnOk l.prog w (K w.params) mg base CX0 17 fa fd ["_law_script"] (spLaw (K w.params))) :
    PySem.W.WalkO q loose XP YP l.row.toRowW d [] (fun f vs => PySem.call f vs) :=
  L2.walk_of (n := 63) (k := 17) (x := "_law_script") (CX := fun _ => CX0) (sp := fun w => spLaw (K w.params)) hn (by decide) hdf ⟨rfl, by decide, by decide⟩ hY F (fun _ _ a ns hl _ hS => ⟨a, ns, rfl, hS, by omega, fun _ => rfl⟩) fun _ _ _ _ _ z => z
theorem law_fin {P : Program} {w : World} {K : PySem.W.Frag} {mg : Str → Option Value} {h : Heap} {fa f C : Addr} {oc : Value} {od an : Option Addr} {osl : Array (Option Value)} {kV doc pm cdv ct : Value} (X : K.In h) (G : h.Ns mainGlobals mg) (hfa : mg "law" = some (.ref fa)) (a : PySem.W.nsIn K mainGlobals "law" = some (some (.ref f)))
    (l : K.lookup f = some ⟨oc, od, .func (PySem.W.fnOf "law" "law" (defArgs s_law) (defBody s_law) (defScope s_law) .none kV doc pm an cdv ct), osl⟩) (c : PySem.W.codeIn K cdv "law" = true) (k : PySem.W.keepIn K (.ref f) = true)
    (T : Bl mg) (Cc : Cs mg) (O : OthC K mg C)
    (F_is_number : DefAt K mg "is_number" s_is_number)
    (F_is_amount : DefAt K mg "is_amount" s_is_amount)
    (F_is_name : DefAt K mg "is_name" s_is_name)
    (F_is_pair : DefAt K mg "is_pair" s_is_pair)
    (F_set_of : DefAt K mg "set_of" s_set_of)
    (F_tupled : DefAt K mg "tupled" s_tupled)
    (F_bills : DefAt K mg "bills" s_bills)
    (F_payers : DefAt K mg "payers" s_payers)
    (F_lists_table : DefAt K mg "lists_table" s_lists_table)
    (F_check_payer : DefAt K mg "check_payer" s_check_payer)
    (F_check_bills : DefAt K mg "check_bills" s_check_bills)
    (F_list_of : DefAt K mg "list_of" s_list_of)
    (F_with_table : DefAt K mg "with_table" s_with_table)
    (F_with_list : DefAt K mg "with_list" s_with_list)
    (F_are_amounts : DefAt K mg "are_amounts" s_are_amounts)
    (F_is_dues : DefAt K mg "is_dues" s_is_dues)
    (F_sum_of : DefAt K mg "sum_of" s_sum_of)
    (F_rest_of : DefAt K mg "rest_of" s_rest_of)
    (F_odd_bills : DefAt K mg "odd_bills" s_odd_bills)
    (F_agree : DefAt K mg "agree" s_agree)
    (F_odd_pairs : DefAt K mg "odd_pairs" s_odd_pairs)
    (F_is_good : DefAt K mg "is_good" s_is_good)
    (F_good_with : DefAt K mg "good_with" s_good_with)
    (F_lay_on : DefAt K mg "lay_on" s_lay_on)
    (F_laid : DefAt K mg "laid" s_laid)
    (F_law_lay : DefAt K mg "_law_lay" s_law_lay)
    (F_fewest_steps : DefAt K mg "fewest_steps" s_fewest_steps)
    (F_all_lists : DefAt K mg "all_lists" s_all_lists)
    (F_check_same : DefAt K mg "check_same" s_check_same)
    (F_nearest_lists : DefAt K mg "nearest_lists" s_nearest_lists)
    (F_unlike_payers : DefAt K mg "unlike_payers" s_unlike_payers)
    (F_parting_payment : DefAt K mg "parting_payment" s_parting_payment)
    (F_is_parting_payment : DefAt K mg "is_parting_payment" s_is_parting_payment)
    (F_law_lists : DefAt K mg "_law_lists" s_law_lists)
    (F_law_same : DefAt K mg "_law_same" s_law_same)
    (F_law_rest : DefAt K mg "_law_rest" s_law_rest)
    (F_law_fit : DefAt K mg "_law_fit" s_law_fit)
    (F_law_bills : DefAt K mg "_law_bills" s_law_bills)
    (F_law_pairs : DefAt K mg "_law_pairs" s_law_pairs)
    (F_law_judged : DefAt K mg "_law_judged" s_law_judged)
    (F_law_all : DefAt K mg "_law_all" s_law_all)
    (F_law_steps : DefAt K mg "_law_steps" s_law_steps)
    (F_law_nearest : DefAt K mg "_law_nearest" s_law_nearest)
    (F_law_take : DefAt K mg "_law_take" s_law_take)
    (F_law_of : DefAt K mg "_law_of" s_law_of)
    (F_law_row : DefAt K mg "_law_row" s_law_row)
    (F_law_box : DefAt K mg "_law_box" s_law_box)
    (F_law_cells : DefAt K mg "_law_cells" s_law_cells)
    (F_law_heard : DefAt K mg "_law_heard" s_law_heard)
    (F_law_by_hand_right : DefAt K mg "_law_by_hand_right" s_hand)
    (F_law_right : DefAt K mg "_law_right" s_law_right)
    : ∃ fd : FuncData, (∀ (s : Shared) (u : Value), BindsTo s fd ⟨[u], []⟩ [("_law_script", u)]) ∧ ∀ base : Heap, K.In base → base.Ns mainGlobals mg → FnOk P w K mg base CX0 17 fa fd ["_law_script"] (spLaw K) := by
  have e := hfa.symm.trans (PySem.W.mg_of X G a)
  cases e
  exact ⟨_, fun s v => .of_eq rfl, fun base _ _ => all_ok T Cc O F_is_number F_is_amount F_is_name F_is_pair F_set_of F_tupled F_bills F_payers F_lists_table F_check_payer F_check_bills F_list_of F_with_table F_with_list F_are_amounts F_is_dues F_sum_of F_rest_of F_odd_bills F_agree F_odd_pairs F_is_good F_good_with F_lay_on F_laid F_law_lay F_fewest_steps F_all_lists F_check_same F_nearest_lists F_unlike_payers F_parting_payment F_is_parting_payment F_law_lists F_law_same F_law_rest F_law_fit F_law_bills F_law_pairs F_law_judged F_law_all F_law_steps F_law_nearest F_law_take F_law_of F_law_row F_law_box F_law_cells F_law_heard F_law_by_hand_right F_law_right (fun_mk l c k)⟩
end Od
open PySem PySem.W PyProof.Rows
set_option maxRecDepth 100000 in
set_option maxHeartbeats 0 in
theorem PySem.Challenge.cw_ownlists_k83_whole_nearest_lists_and_unl_holds : PySem.Challenge.rw_ownlists_k83_whole_nearest_lists_and_unl.Holds := by
  w_on; o_law; k_head; (case hw => w_witness2)
  k_fill
  refine Od.walk (l := PySem.Challenge.rw_ownlists_k83_whole_nearest_lists_and_unl) rfl rfl (fun w h Y => PySem.W.kIn_of Y) ?F
  case F =>
    intro w mg fa h KX G hmg
    refine' Od.with_def (x := "is_number") (st := Od.s_is_number) KX G ?a0 ?l0 ?c0 ?k0 (fun F_is_number => ?n0)
    (case a0 => k_is); (case l0 => k_is); (case c0 => k_is); (case k0 => k_is)
    refine' Od.with_def (x := "is_amount") (st := Od.s_is_amount) KX G ?a1 ?l1 ?c1 ?k1 (fun F_is_amount => ?n1)
    (case a1 => k_is); (case l1 => k_is); (case c1 => k_is); (case k1 => k_is)
    refine' Od.with_def (x := "is_name") (st := Od.s_is_name) KX G ?a2 ?l2 ?c2 ?k2 (fun F_is_name => ?n2)
    (case a2 => k_is); (case l2 => k_is); (case c2 => k_is); (case k2 => k_is)
    refine' Od.with_def (x := "is_pair") (st := Od.s_is_pair) KX G ?a3 ?l3 ?c3 ?k3 (fun F_is_pair => ?n3)
    (case a3 => k_is); (case l3 => k_is); (case c3 => k_is); (case k3 => k_is)
    refine' Od.with_def (x := "set_of") (st := Od.s_set_of) KX G ?a4 ?l4 ?c4 ?k4 (fun F_set_of => ?n4)
    (case a4 => k_is); (case l4 => k_is); (case c4 => k_is); (case k4 => k_is)
    refine' Od.with_def (x := "tupled") (st := Od.s_tupled) KX G ?a5 ?l5 ?c5 ?k5 (fun F_tupled => ?n5)
    (case a5 => k_is); (case l5 => k_is); (case c5 => k_is); (case k5 => k_is)
    refine' Od.with_def (x := "bills") (st := Od.s_bills) KX G ?a6 ?l6 ?c6 ?k6 (fun F_bills => ?n6)
    (case a6 => k_is); (case l6 => k_is); (case c6 => k_is); (case k6 => k_is)
    refine' Od.with_def (x := "payers") (st := Od.s_payers) KX G ?a7 ?l7 ?c7 ?k7 (fun F_payers => ?n7)
    (case a7 => k_is); (case l7 => k_is); (case c7 => k_is); (case k7 => k_is)
    refine' Od.with_def (x := "lists_table") (st := Od.s_lists_table) KX G ?a8 ?l8 ?c8 ?k8 (fun F_lists_table => ?n8)
    (case a8 => k_is); (case l8 => k_is); (case c8 => k_is); (case k8 => k_is)
    refine' Od.with_def (x := "check_payer") (st := Od.s_check_payer) KX G ?a9 ?l9 ?c9 ?k9 (fun F_check_payer => ?n9)
    (case a9 => k_is); (case l9 => k_is); (case c9 => k_is); (case k9 => k_is)
    refine' Od.with_def (x := "check_bills") (st := Od.s_check_bills) KX G ?a10 ?l10 ?c10 ?k10 (fun F_check_bills => ?n10)
    (case a10 => k_is); (case l10 => k_is); (case c10 => k_is); (case k10 => k_is)
    refine' Od.with_def (x := "list_of") (st := Od.s_list_of) KX G ?a11 ?l11 ?c11 ?k11 (fun F_list_of => ?n11)
    (case a11 => k_is); (case l11 => k_is); (case c11 => k_is); (case k11 => k_is)
    refine' Od.with_def (x := "with_table") (st := Od.s_with_table) KX G ?a12 ?l12 ?c12 ?k12 (fun F_with_table => ?n12)
    (case a12 => k_is); (case l12 => k_is); (case c12 => k_is); (case k12 => k_is)
    refine' Od.with_def (x := "with_list") (st := Od.s_with_list) KX G ?a13 ?l13 ?c13 ?k13 (fun F_with_list => ?n13)
    (case a13 => k_is); (case l13 => k_is); (case c13 => k_is); (case k13 => k_is)
    refine' Od.with_def (x := "are_amounts") (st := Od.s_are_amounts) KX G ?a14 ?l14 ?c14 ?k14 (fun F_are_amounts => ?n14)
    (case a14 => k_is); (case l14 => k_is); (case c14 => k_is); (case k14 => k_is)
    refine' Od.with_def (x := "is_dues") (st := Od.s_is_dues) KX G ?a15 ?l15 ?c15 ?k15 (fun F_is_dues => ?n15)
    (case a15 => k_is); (case l15 => k_is); (case c15 => k_is); (case k15 => k_is)
    refine' Od.with_def (x := "sum_of") (st := Od.s_sum_of) KX G ?a16 ?l16 ?c16 ?k16 (fun F_sum_of => ?n16)
    (case a16 => k_is); (case l16 => k_is); (case c16 => k_is); (case k16 => k_is)
    refine' Od.with_def (x := "rest_of") (st := Od.s_rest_of) KX G ?a17 ?l17 ?c17 ?k17 (fun F_rest_of => ?n17)
    (case a17 => k_is); (case l17 => k_is); (case c17 => k_is); (case k17 => k_is)
    refine' Od.with_def (x := "odd_bills") (st := Od.s_odd_bills) KX G ?a18 ?l18 ?c18 ?k18 (fun F_odd_bills => ?n18)
    (case a18 => k_is); (case l18 => k_is); (case c18 => k_is); (case k18 => k_is)
    refine' Od.with_def (x := "agree") (st := Od.s_agree) KX G ?a19 ?l19 ?c19 ?k19 (fun F_agree => ?n19)
    (case a19 => k_is); (case l19 => k_is); (case c19 => k_is); (case k19 => k_is)
    refine' Od.with_def (x := "odd_pairs") (st := Od.s_odd_pairs) KX G ?a20 ?l20 ?c20 ?k20 (fun F_odd_pairs => ?n20)
    (case a20 => k_is); (case l20 => k_is); (case c20 => k_is); (case k20 => k_is)
    refine' Od.with_def (x := "is_good") (st := Od.s_is_good) KX G ?a21 ?l21 ?c21 ?k21 (fun F_is_good => ?n21)
    (case a21 => k_is); (case l21 => k_is); (case c21 => k_is); (case k21 => k_is)
    refine' Od.with_def (x := "good_with") (st := Od.s_good_with) KX G ?a22 ?l22 ?c22 ?k22 (fun F_good_with => ?n22)
    (case a22 => k_is); (case l22 => k_is); (case c22 => k_is); (case k22 => k_is)
    refine' Od.with_def (x := "lay_on") (st := Od.s_lay_on) KX G ?a23 ?l23 ?c23 ?k23 (fun F_lay_on => ?n23)
    (case a23 => k_is); (case l23 => k_is); (case c23 => k_is); (case k23 => k_is)
    refine' Od.with_def (x := "laid") (st := Od.s_laid) KX G ?a24 ?l24 ?c24 ?k24 (fun F_laid => ?n24)
    (case a24 => k_is); (case l24 => k_is); (case c24 => k_is); (case k24 => k_is)
    refine' Od.with_def (x := "_law_lay") (st := Od.s_law_lay) KX G ?a25 ?l25 ?c25 ?k25 (fun F_law_lay => ?n25)
    (case a25 => k_is); (case l25 => k_is); (case c25 => k_is); (case k25 => k_is)
    refine' Od.with_def (x := "fewest_steps") (st := Od.s_fewest_steps) KX G ?a26 ?l26 ?c26 ?k26 (fun F_fewest_steps => ?n26)
    (case a26 => k_is); (case l26 => k_is); (case c26 => k_is); (case k26 => k_is)
    refine' Od.with_def (x := "all_lists") (st := Od.s_all_lists) KX G ?a27 ?l27 ?c27 ?k27 (fun F_all_lists => ?n27)
    (case a27 => k_is); (case l27 => k_is); (case c27 => k_is); (case k27 => k_is)
    refine' Od.with_def (x := "check_same") (st := Od.s_check_same) KX G ?a28 ?l28 ?c28 ?k28 (fun F_check_same => ?n28)
    (case a28 => k_is); (case l28 => k_is); (case c28 => k_is); (case k28 => k_is)
    refine' Od.with_def (x := "nearest_lists") (st := Od.s_nearest_lists) KX G ?a29 ?l29 ?c29 ?k29 (fun F_nearest_lists => ?n29)
    (case a29 => k_is); (case l29 => k_is); (case c29 => k_is); (case k29 => k_is)
    refine' Od.with_def (x := "unlike_payers") (st := Od.s_unlike_payers) KX G ?a30 ?l30 ?c30 ?k30 (fun F_unlike_payers => ?n30)
    (case a30 => k_is); (case l30 => k_is); (case c30 => k_is); (case k30 => k_is)
    refine' Od.with_def (x := "parting_payment") (st := Od.s_parting_payment) KX G ?a31 ?l31 ?c31 ?k31 (fun F_parting_payment => ?n31)
    (case a31 => k_is); (case l31 => k_is); (case c31 => k_is); (case k31 => k_is)
    refine' Od.with_def (x := "is_parting_payment") (st := Od.s_is_parting_payment) KX G ?a32 ?l32 ?c32 ?k32 (fun F_is_parting_payment => ?n32)
    (case a32 => k_is); (case l32 => k_is); (case c32 => k_is); (case k32 => k_is)
    refine' Od.with_def (x := "_law_lists") (st := Od.s_law_lists) KX G ?a33 ?l33 ?c33 ?k33 (fun F_law_lists => ?n33)
    (case a33 => k_is); (case l33 => k_is); (case c33 => k_is); (case k33 => k_is)
    refine' Od.with_def (x := "_law_same") (st := Od.s_law_same) KX G ?a34 ?l34 ?c34 ?k34 (fun F_law_same => ?n34)
    (case a34 => k_is); (case l34 => k_is); (case c34 => k_is); (case k34 => k_is)
    refine' Od.with_def (x := "_law_rest") (st := Od.s_law_rest) KX G ?a35 ?l35 ?c35 ?k35 (fun F_law_rest => ?n35)
    (case a35 => k_is); (case l35 => k_is); (case c35 => k_is); (case k35 => k_is)
    refine' Od.with_def (x := "_law_fit") (st := Od.s_law_fit) KX G ?a36 ?l36 ?c36 ?k36 (fun F_law_fit => ?n36)
    (case a36 => k_is); (case l36 => k_is); (case c36 => k_is); (case k36 => k_is)
    refine' Od.with_def (x := "_law_bills") (st := Od.s_law_bills) KX G ?a37 ?l37 ?c37 ?k37 (fun F_law_bills => ?n37)
    (case a37 => k_is); (case l37 => k_is); (case c37 => k_is); (case k37 => k_is)
    refine' Od.with_def (x := "_law_pairs") (st := Od.s_law_pairs) KX G ?a38 ?l38 ?c38 ?k38 (fun F_law_pairs => ?n38)
    (case a38 => k_is); (case l38 => k_is); (case c38 => k_is); (case k38 => k_is)
    refine' Od.with_def (x := "_law_judged") (st := Od.s_law_judged) KX G ?a39 ?l39 ?c39 ?k39 (fun F_law_judged => ?n39)
    (case a39 => k_is); (case l39 => k_is); (case c39 => k_is); (case k39 => k_is)
    refine' Od.with_def (x := "_law_all") (st := Od.s_law_all) KX G ?a40 ?l40 ?c40 ?k40 (fun F_law_all => ?n40)
    (case a40 => k_is); (case l40 => k_is); (case c40 => k_is); (case k40 => k_is)
    refine' Od.with_def (x := "_law_steps") (st := Od.s_law_steps) KX G ?a41 ?l41 ?c41 ?k41 (fun F_law_steps => ?n41)
    (case a41 => k_is); (case l41 => k_is); (case c41 => k_is); (case k41 => k_is)
    refine' Od.with_def (x := "_law_nearest") (st := Od.s_law_nearest) KX G ?a42 ?l42 ?c42 ?k42 (fun F_law_nearest => ?n42)
    (case a42 => k_is); (case l42 => k_is); (case c42 => k_is); (case k42 => k_is)
    refine' Od.with_def (x := "_law_take") (st := Od.s_law_take) KX G ?a43 ?l43 ?c43 ?k43 (fun F_law_take => ?n43)
    (case a43 => k_is); (case l43 => k_is); (case c43 => k_is); (case k43 => k_is)
    refine' Od.with_def (x := "_law_of") (st := Od.s_law_of) KX G ?a44 ?l44 ?c44 ?k44 (fun F_law_of => ?n44)
    (case a44 => k_is); (case l44 => k_is); (case c44 => k_is); (case k44 => k_is)
    refine' Od.with_def (x := "_law_row") (st := Od.s_law_row) KX G ?a45 ?l45 ?c45 ?k45 (fun F_law_row => ?n45)
    (case a45 => k_is); (case l45 => k_is); (case c45 => k_is); (case k45 => k_is)
    refine' Od.with_def (x := "_law_box") (st := Od.s_law_box) KX G ?a46 ?l46 ?c46 ?k46 (fun F_law_box => ?n46)
    (case a46 => k_is); (case l46 => k_is); (case c46 => k_is); (case k46 => k_is)
    refine' Od.with_def (x := "_law_cells") (st := Od.s_law_cells) KX G ?a47 ?l47 ?c47 ?k47 (fun F_law_cells => ?n47)
    (case a47 => k_is); (case l47 => k_is); (case c47 => k_is); (case k47 => k_is)
    refine' Od.with_def (x := "_law_heard") (st := Od.s_law_heard) KX G ?a48 ?l48 ?c48 ?k48 (fun F_law_heard => ?n48)
    (case a48 => k_is); (case l48 => k_is); (case c48 => k_is); (case k48 => k_is)
    refine' Od.with_def (x := "_law_by_hand_right") (st := Od.s_hand) KX G ?a49 ?l49 ?c49 ?k49 (fun F_law_by_hand_right => ?n49)
    (case a49 => k_is); (case l49 => k_is); (case c49 => k_is); (case k49 => k_is)
    refine' Od.with_def (x := "_law_right") (st := Od.s_law_right) KX G ?a50 ?l50 ?c50 ?k50 (fun F_law_right => ?n50)
    (case a50 => k_is); (case l50 => k_is); (case c50 => k_is); (case k50 => k_is)
    have T : Od.Bl mg := by
      refine' ⟨PySem.W.mg_none_of KX G ?b0, PySem.W.mg_none_of KX G ?b1, PySem.W.mg_none_of KX G ?b2, PySem.W.mg_none_of KX G ?b3, PySem.W.mg_none_of KX G ?b4, PySem.W.mg_none_of KX G ?b5, PySem.W.mg_none_of KX G ?b6, PySem.W.mg_none_of KX G ?b7, PySem.W.mg_none_of KX G ?b8, PySem.W.mg_none_of KX G ?b9, PySem.W.mg_none_of KX G ?b10, PySem.W.mg_none_of KX G ?b11, PySem.W.mg_none_of KX G ?b12, PySem.W.mg_none_of KX G ?b13, PySem.W.mg_none_of KX G ?b14, PySem.W.mg_none_of KX G ?b15, PySem.W.mg_none_of KX G ?b16, PySem.W.mg_none_of KX G ?b17, PySem.W.mg_none_of KX G ?b18⟩
      (case b0 => k_is)
      (case b1 => k_is)
      (case b2 => k_is)
      (case b3 => k_is)
      (case b4 => k_is)
      (case b5 => k_is)
      (case b6 => k_is)
      (case b7 => k_is)
      (case b8 => k_is)
      (case b9 => k_is)
      (case b10 => k_is)
      (case b11 => k_is)
      (case b12 => k_is)
      (case b13 => k_is)
      (case b14 => k_is)
      (case b15 => k_is)
      (case b16 => k_is)
      (case b17 => k_is)
      (case b18 => k_is)
    have Cc : Od.Cs mg := by
      refine' Od.cs_mk KX G ?cs1 ?cs2 ?cs3 ?ct1 ?ct2 ?ct3
      (case cs1 => k_is); (case cs2 => k_is); (case cs3 => k_is)
      (case ct1 => exact ⟨_, rfl⟩); (case ct2 => exact ⟨_, rfl⟩); (case ct3 => exact ⟨_, rfl⟩)
    refine' Od.law_fin KX G hmg ?la ?ll ?lc ?lk T Cc (Od.OthC.mk (PySem.W.mg_of KX G ?g) ?x ?k2 ?b ?t (Od.exm_self ?b2 ?d2 ?t2 ?s2) (L2.ExcC.mk ?hg ?hk ?hs ?hd ?ha ?hn ?ht ?hm) (Od.kit_ve ?v)) F_is_number F_is_amount F_is_name F_is_pair F_set_of F_tupled F_bills F_payers F_lists_table F_check_payer F_check_bills F_list_of F_with_table F_with_list F_are_amounts F_is_dues F_sum_of F_rest_of F_odd_bills F_agree F_odd_pairs F_is_good F_good_with F_lay_on F_laid F_law_lay F_fewest_steps F_all_lists F_check_same F_nearest_lists F_unlike_payers F_parting_payment F_is_parting_payment F_law_lists F_law_same F_law_rest F_law_fit F_law_bills F_law_pairs F_law_judged F_law_all F_law_steps F_law_nearest F_law_take F_law_of F_law_row F_law_box F_law_cells F_law_heard F_law_by_hand_right F_law_right
    (case la => k_is)
    (case ll => k_is)
    (case lc => k_is)
    (case lk => k_is)
    (case g => k_is)
    (case x => k_exc)
    (case k2 => k_is)
    (case b => k_is)
    (case t => k_is)
    (case b2 => k_is)
    (case d2 => k_is)
    (case t2 => k_is)
    (case s2 => k_is)
    (case hg => k_is)
    (case hk => k_is)
    (case hs => k_is)
    (case hd => k_is)
    (case ha => k_is)
    (case hn => k_is)
    (case ht => k_is)
    (case hm => k_is)
    (case v => k_is)
end
