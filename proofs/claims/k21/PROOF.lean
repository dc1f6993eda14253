import PyProof.Rows.All
import Wide.All
import OpenK.AllK
import Wide.FinOn
import HandS.ForMost
import HandS.Deep
import HandS.TupAny
import HandS.Flow
import HandS.Walk
import HandS.SortInts
import PyProof.P3In
import HandS.Comp
import HandS.IsInst
import KE.GoesEnum
import HandS.Iter
import KE.SortData
import KE.KeyNested
import HandS.TupSets
import HandS.DictTup
import HandS.ListItems
import KE.KDictItemsList
import KE.KDictCopyH
import KE.KDictSum
import KE.KDictPairs
import KE.KDictKeyed
import HandS.WideBits
import HandS.Conv
import HandS.Ends
import HandS.Head0
import HandS.Head1
import HandS.Head2
import HandS.HeadEnd
import HandS.HeadHook1
import PySem.Challenge.RW_secondknock_k21_whole_which_feeler_an_ou
set_option Elab.async false
set_option linter.all false
set_option maxRecDepth 100000
set_option maxHeartbeats 4000000
/-! SkA: weakest readings (we, wt, wa ..) and data in the abstract heap. -/
namespace Sk
open PySem PySem.Spec PyProof.Rows L2

/-! ### the weakest reading of each kind of phrase -/
def we (X : Cx) (e : Expr) : TE := fun σ H Q => ∀ pins s, Inv X pins σ H s → wpAny (model X.prog X.w) X.A (eval e X.env) (EP X pins σ Q) X.xe s
def wt (X : Cx) (e : Expr) : TT := fun σ H Q => ∀ pins s, Inv X pins σ H s → wpAny (model X.prog X.w) X.A (isTrue e X.env (eval e X.env)) (TP X pins σ Q) X.xe s
def wa (X : Cx) (es : List Expr) : TA := fun σ H Q => ∀ (pos : Pos) pins s, Inv X pins σ H s → wpAny (model X.prog X.w) X.A (spliced (backTo pos (starEach es X.env))) (AP X pins σ Q) X.xe s
def ws (X : Cx) (st : Stmt) : TS := fun D σ H => ∀ pins s, Inv X pins σ H s → wpAny (model X.prog X.w) X.A (exec st X.env) (SP X pins D) X.xe s
def wss (X : Cx) (st : List Stmt) : TS := fun D σ H => ∀ pins s, Inv X pins σ H s → wpAny (model X.prog X.w) X.A (execs st X.env) (SP X pins D) X.xe s
def wts (X : Cx) (ifs : List Expr) : TT := fun σ H Q => ∀ pins s, Inv X pins σ H s →
  wpAny (model X.prog X.w) X.A (forIn ifs true fun c r => if r = true then do let ok ← isTrue c X.env (eval c X.env); pure (ForInStep.yield ok) else pure (ForInStep.yield r)) (TP X pins σ Q) X.xe s
def wg (X : Cx) (tg : Expr) : TG := fun v σ H Q => ∀ pins s u, Inv X pins σ H s → RelV v u →
  wpAny (model X.prog X.w) X.A (assign tg X.env u) (fun _ s' => ∃ σ' H', Inv X pins σ' H' s' ∧ Q σ' H') X.xe s
def wi (X : Cx) (tg it : Expr) : TI := fun σ H R => ∀ pins s, Inv X pins σ H s →
  wpAny (model X.prog X.w) X.A (eval it X.env) (fun v s1 => wpAny (model X.prog X.w) X.A (pyIter v) (PIE X pins σ tg R) X.xe s1) X.xe s
section
variable {X : Cx} {e : Expr}
theorem pe_we : PE X e (we X e) := ⟨fun pins s σ H Q I h => h pins s I⟩
theorem pt_wt : PT X e (wt X e) := ⟨fun pins s σ H Q I h => h pins s I⟩
theorem pa_wa {es : List Expr} : PA X es (wa X es) := ⟨fun pos pins s σ H Q I h => h pos pins s I⟩
theorem ps_ws {st : Stmt} : PS X st (ws X st) := ⟨fun pins s σ H D I h => h pins s I⟩
theorem pss_wss {st : List Stmt} : PSs X st (wss X st) := ⟨fun pins s σ H D I h => h pins s I⟩
theorem pts_wts {ifs : List Expr} : PTs X ifs (wts X ifs) := ⟨fun pins s σ H Q I h => h pins s I⟩
theorem pg_wg : PG X e (wg X e) := ⟨fun pins s σ H v u Q I r h => h pins s u I r⟩
theorem pi_wi {it : Expr} : PI X e it (wi X e it) := ⟨fun pins s σ H R I h => h pins s I⟩
theorem to_we {t : TE} {σ : L2.St} {H : Hp} {Q : VK} (p : PE X e t) (h : t σ H Q) : we X e σ H Q := fun pins s I => p.run pins s σ H Q I h
theorem to_wt {t : TT} {σ : L2.St} {H : Hp} {Q : Bool → Hp → Prop} (p : PT X e t) (h : t σ H Q) : wt X e σ H Q := fun pins s I => p.run pins s σ H Q I h
theorem to_wa {es : List Expr} {t : TA} {σ : L2.St} {H : Hp} {Q : List V → Hp → Prop} (p : PA X es t) (h : t σ H Q) : wa X es σ H Q := fun pos pins s I => p.run pos pins s σ H Q I h
theorem to_ws {st : Stmt} {t : TS} {σ : L2.St} {H : Hp} {D : Ends} (p : PS X st t) (h : t D σ H) : ws X st D σ H := fun pins s I => p.run pins s σ H D I h
theorem to_wss {st : List Stmt} {t : TS} {σ : L2.St} {H : Hp} {D : Ends} (p : PSs X st t) (h : t D σ H) : wss X st D σ H := fun pins s I => p.run pins s σ H D I h
theorem to_wts {ifs : List Expr} {t : TT} {σ : L2.St} {H : Hp} {Q : Bool → Hp → Prop} (p : PTs X ifs t) (h : t σ H Q) : wts X ifs σ H Q := fun pins s I => p.run pins s σ H Q I h
theorem to_wg {t : TG} {v : V} {σ : L2.St} {H : Hp} {Q : L2.St → Hp → Prop} (p : PG X e t) (h : t v σ H Q) : wg X e v σ H Q := fun pins s u I r => p.run pins s σ H v u Q I r h
theorem to_wi {it : Expr} {t : TI} {σ : L2.St} {H : Hp} {R : It → Hp → Prop} (p : PI X e it t) (h : t σ H R) : wi X e it σ H R := fun pins s I => p.run pins s σ H R I h
theorem we_mono {σ : L2.St} {H : Hp} {Q Q' : VK} (q : ∀ v H', Q v H' → Q' v H') (h : we X e σ H Q) : we X e σ H Q' := fun pins s I =>
  thn (h pins s I) fun u s' ⟨v, H', I', r, z⟩ => ⟨v, H', I', r, q v H' z⟩
end

/-! ### the hidden part of a heap -/
abbrev Dom := Addr → Prop
open Classical in
noncomputable def hid (T : Dom) (H : Hp) : Hp := fun a => if T a then none else H a
section
variable {T : Dom} {H H' : Hp} {a p : Addr} {o : HO}
theorem hid_yes (h : T a) : hid T H a = none := by unfold hid; rw [if_pos h]
theorem hid_no (h : ¬ T a) : hid T H a = H a := by unfold hid; rw [if_neg h]
theorem hid_some (h : hid T H a = some o) : ¬ T a ∧ H a = some o := by
  by_cases t : T a
  · rw [hid_yes t] at h; cases h
  · rw [hid_no t] at h; exact ⟨t, h⟩
theorem hid_le : Same (hid T H) H := fun _ _ h => (hid_some h).2
/-- a tuple -/
def tupO : HO → Bool
  | .tup _ => true
  | .frz _ (.tup _) => true
  | _ => false
/-- what is hidden is there, and no tuple -/
def TOk (T : Dom) (H : Hp) : Prop := ∀ a, T a → ∃ u, H a = some u ∧ tupO u = false
theorem TOk.not (k : TOk T H) (h : H p = none) : ¬ T p := fun t => by
  obtain ⟨u, h1, _⟩ := k p t
  rw [h] at h1
  cases h1
theorem TOk.mono (k : TOk T H) (e : Same H H') : TOk T H' := fun a t => let ⟨u, h1, h2⟩ := k a t; ⟨u, e a u h1, h2⟩
/-- all but T stays -/
def SameT (T : Dom) (H H' : Hp) : Prop := ∀ a o, ¬ T a → H a = some o → H' a = some o
theorem SameT.refl : SameT T H H := fun _ _ _ h => h
theorem SameT.trans {H2 : Hp} (x : SameT T H H') (y : SameT T H' H2) : SameT T H H2 := fun a o t h => y a o t (x a o t h)
theorem same_t (e : Same H H') : SameT T H H' := fun a o _ h => e a o h
theorem SameT.wide {T2 : Dom} (x : SameT T H H') (w : ∀ a, T a → T2 a) : SameT T2 H H' := fun a o t h => x a o (fun z => t (w a z)) h
theorem SameT.hid (x : SameT T H H') : Same (hid T H) (hid T H') := fun a o h => by
  obtain ⟨t, e⟩ := hid_some h
  rw [hid_no t]
  exact x a o t e
theorem same_hid (e : Same H H') : Same (hid T H) (hid T H') := (same_t e).hid
theorem same_new (h : H p = none) : Same H (upd H p o) := fun b x e => by rw [upd_ne (ne_of_none e h)]; exact e
theorem same_new2 (e : Same H H') (h : H' p = none) : Same H (upd H' p o) := e.trans (same_new h)
/-- a hidden object may change -/
theorem sameT_upd (t : T p) : SameT T H (upd H p o) := fun a x nt h => by rw [upd_ne (fun e => nt (by rw [e]; exact t))]; exact h
theorem tok_upd (k : TOk T H) (h : tupO o = false) : TOk T (upd H p o) := fun a t => by
  by_cases e : a = p
  · subst e; exact ⟨o, upd_same, h⟩
  · rw [upd_ne e]; exact k a t
theorem hid_hid {T2 : Dom} (w : ∀ a, T a → T2 a) : Same (hid T2 H) (hid T H) := fun a o h => by
  obtain ⟨t, e⟩ := hid_some h
  rw [hid_no (fun z => t (w a z))]
  exact e
end

/-! ### data -/
def kvV (x : (Int × Int) × Int) : List Key × V := ([Sum.inl x.1.1, Sum.inl x.1.2], .int x.2)
/-- ((i, j), n) -/
def pairish : PyData → Bool
  | .tuple [.tuple [.int _, .int _], .int _] => true
  | _ => false
/-- a row of such pairs: its own object is known (what dict() asks of it) -/
def mustP (ds : List PyData) : Bool := ds.all pairish
def Lab (H : Hp) (a : Addr) (vs : List V) (ds : List PyData) : Prop :=
  (mustP ds = false ∧ H a = some (.tup vs)) ∨ (mustP ds = true ∧ ∃ o : Obj, H a = some (.frz o (.tup vs)) ∧ o.dict = none)
theorem Lab.rd {H : Hp} {a : Addr} {vs : List V} {ds : List PyData} (h : Lab H a vs ds) : Rd H a (.tup vs) := by
  rcases h with ⟨_, h⟩ | ⟨_, o, h, _⟩
  · exact .inl h
  · exact .inr ⟨o, h⟩
theorem Lab.tup {H : Hp} {a : Addr} {vs : List V} {ds : List PyData} (h : H a = some (.tup vs)) (hm : mustP ds = false := by rfl) : Lab H a vs ds := .inl ⟨hm, h⟩
theorem Lab.mono {H H' : Hp} {a : Addr} {vs : List V} {ds : List PyData} (e : Same H H') (h : Lab H a vs ds) : Lab H' a vs ds := by
  rcases h with ⟨m, h⟩ | ⟨m, o, h, d⟩
  · exact .inl ⟨m, e _ _ h⟩
  · exact .inr ⟨m, o, e _ _ h, d⟩
theorem rd_mono {H H' : Hp} {a : Addr} {u : HO} (e : Same H H') (h : Rd H a u) : Rd H' a u := by
  rcases h with h | ⟨o, h⟩
  · exact .inl (e _ _ h)
  · exact .inr ⟨o, e _ _ h⟩
def kvD (x : (Int × Int) × Int) : PyData × PyData := (.tuple [.int x.1.1, .int x.1.2], .int x.2)
mutual
/-- v is the datum d, read off H -/
inductive Da (H : Hp) : V → PyData → Prop
  | non : Da H .non .none
  | bl (b : Bool) : Da H (.bl b) (.bool b)
  | int (i : Int) : Da H (.int i) (.int i)
  | str (x : Str) : Da H (.str x) (.str x)
  | tup {a : Addr} {vs : List V} {ds : List PyData} : Lab H a vs ds → Das H vs ds → Da H (.ref a) (.tuple ds)
  | lst {a : Addr} {vs : List V} {ds : List PyData} : H a = some (.lst vs) → Das H vs ds → Da H (.ref a) (.list ds)
  | dct {a : Addr} {kvs : List ((Int × Int) × Int)} : H a = some (.dT (kvs.map kvV)) → Da H (.ref a) (.dict (kvs.map kvD))
inductive Das (H : Hp) : List V → List PyData → Prop
  | nil : Das H [] []
  | cons {v : V} {vs : List V} {d : PyData} {ds : List PyData} : Da H v d → Das H vs ds → Das H (v :: vs) (d :: ds)
end
section
variable {H H' : Hp}
mutual
theorem Da.mono (e : Same H H') : ∀ {v : V} {d : PyData}, Da H v d → Da H' v d
  | _, _, .non => .non
  | _, _, .bl b => .bl b
  | _, _, .int i => .int i
  | _, _, .str x => .str x
  | _, _, .tup h hs => .tup (h.mono e) (Das.mono e hs)
  | _, _, .lst h hs => .lst (e _ _ h) (Das.mono e hs)
  | _, _, .dct h => .dct (e _ _ h)
theorem Das.mono (e : Same H H') : ∀ {vs : List V} {ds : List PyData}, Das H vs ds → Das H' vs ds
  | _, _, .nil => .nil
  | _, _, .cons h hs => .cons (Da.mono e h) (Das.mono e hs)
end
theorem Das.length : ∀ {vs : List V} {ds : List PyData}, Das H vs ds → vs.length = ds.length
  | _, _, .nil => rfl
  | _, _, .cons _ hs => by rw [List.length_cons, List.length_cons, Das.length hs]
theorem Das.at : ∀ {vs : List V} {ds : List PyData} {i : Nat} {v : V}, Das H vs ds → vs[i]? = some v → ∃ d, ds[i]? = some d ∧ Da H v d
  | _, _, i, v, .nil, e => by simp at e
  | _, _, 0, v, .cons h _, e => by
    simp at e; subst e; exact ⟨_, rfl, h⟩
  | _, _, i + 1, v, .cons _ hs, e => by
    obtain ⟨d, h1, h2⟩ := Das.at (i := i) (v := v) hs (by simpa using e)
    exact ⟨d, by simpa using h1, h2⟩
theorem Das.get : ∀ {vs : List V} {ds : List PyData} {i : Nat} {d : PyData}, Das H vs ds → ds[i]? = some d → ∃ v, vs[i]? = some v ∧ Da H v d
  | _, _, i, v, .nil, e => by simp at e
  | _, _, 0, v, .cons h _, e => by
    simp at e; subst e; exact ⟨_, rfl, h⟩
  | _, _, i + 1, v, .cons _ hs, e => by
    obtain ⟨d, h1, h2⟩ := Das.get (i := i) (d := v) hs (by simpa using e)
    exact ⟨d, by simpa using h1, h2⟩
theorem Das.append : ∀ {vs ws : List V} {ds es : List PyData}, Das H vs ds → Das H ws es → Das H (vs ++ ws) (ds ++ es)
  | _, _, _, _, .nil, k => k
  | _, _, _, _, .cons h hs, k => .cons h (Das.append hs k)
theorem Das.take : ∀ {vs : List V} {ds : List PyData} (n : Nat), Das H vs ds → Das H (vs.take n) (ds.take n)
  | _, _, 0, _ => .nil
  | _, _, _ + 1, .nil => .nil
  | _, _, n + 1, .cons h hs => .cons h (Das.take n hs)
theorem Das.drop : ∀ {vs : List V} {ds : List PyData} (n : Nat), Das H vs ds → Das H (vs.drop n) (ds.drop n)
  | _, _, 0, k => k
  | _, _, _ + 1, .nil => .nil
  | _, _, n + 1, .cons _ hs => Das.drop n hs
theorem Das.eraseIdx : ∀ {vs : List V} {ds : List PyData} (n : Nat), Das H vs ds → Das H (vs.eraseIdx n) (ds.eraseIdx n)
  | _, _, _, .nil => .nil
  | _, _, 0, .cons _ hs => hs
  | _, _, n + 1, .cons h hs => .cons h (Das.eraseIdx n hs)
theorem Das.one {v : V} {d : PyData} (h : Da H v d) : Das H [v] [d] := .cons h .nil
theorem Das.ints : ∀ (ns : List Int), Das H (ns.map V.int) (ns.map PyData.int)
  | [] => .nil
  | n :: ns => .cons (.int n) (Das.ints ns)
theorem Das.ints_inv : ∀ {vs : List V} {ns : List Int}, Das H vs (ns.map PyData.int) → vs = ns.map V.int
  | _, [], .nil => rfl
  | _, n :: ns, .cons h hs => by
    cases h
    rw [Das.ints_inv hs] <;> rfl
theorem Das.bools_inv : ∀ {vs : List V} {bs : List Bool}, Das H vs (bs.map PyData.bool) → vs = bs.map V.bl
  | _, [], .nil => rfl
  | _, n :: ns, .cons h hs => by
    cases h
    rw [Das.bools_inv hs] <;> rfl
end
/-- no list and no dict within -/
def flat : PyData → Bool
  | .list _ => false
  | .dict _ => false
  | .tuple ds => flats ds
  | _ => true
where flats : List PyData → Bool
  | [] => true
  | d :: ds => flat d && flats ds
/-- tuples stay -/
def Tups (H H' : Hp) : Prop := ∀ a u, tupO u = true → H a = some u → H' a = some u
theorem Lab.tups {H H' : Hp} {a : Addr} {vs : List V} {ds : List PyData} (e : Tups H H') (h : Lab H a vs ds) : Lab H' a vs ds := by
  rcases h with ⟨m, h⟩ | ⟨m, o, h, d⟩
  · exact .inl ⟨m, e _ _ rfl h⟩
  · exact .inr ⟨m, o, e _ _ rfl h, d⟩
mutual
theorem Da.tups {H H' : Hp} (e : Tups H H') : ∀ {v : V} {d : PyData}, flat d = true → Da H v d → Da H' v d
  | _, _, _, .non => .non
  | _, _, _, .bl b => .bl b
  | _, _, _, .int i => .int i
  | _, _, _, .str x => .str x
  | _, _, f, .tup h hs => .tup (h.tups e) (Das.tups e (by simpa [flat] using f) hs)
  | _, _, f, .lst h hs => by simp [flat] at f
  | _, _, f, .dct h => by simp [flat] at f
theorem Das.tups {H H' : Hp} (e : Tups H H') : ∀ {vs : List V} {ds : List PyData}, flat.flats ds = true → Das H vs ds → Das H' vs ds
  | _, _, _, .nil => .nil
  | _, _, f, .cons h hs => by
    rw [flat.flats, Bool.and_eq_true] at f
    exact .cons (Da.tups e f.1 h) (Das.tups e f.2 hs)
end
/-- a flat datum is seen behind what hides no tuple -/
theorem tups_hid {T : Dom} {H : Hp} (k : TOk T H) : Tups H (hid T H) := fun a u hu h => by
  rw [hid_no fun t => by
    obtain ⟨v, h1, h2⟩ := k a t
    rw [h] at h1
    cases h1
    rw [hu] at h2
    cases h2]
  exact h
end Sk
set_option maxHeartbeats 4000000
/-! SkB: the context, the judgement E and its rules for names, constants, displays, operators. -/
namespace Sk
open PySem PySem.Spec PyProof.Rows L2

/-- where one stands: the names by place, the scope, room for k calls -/
structure At (P : Program) (w : World) (K : PySem.W.Frag) (mg : Str → Option Value) (base : Heap) (k : Nat) (N : List Str) (sc own : Scope) (X : Cx) : Prop where
  eprog : X.prog = P
  ew : X.w = w
  eK : X.K = K
  emg : X.mg = mg
  ebase : X.base = base
  eN : X.N = N
  esc : X.env.scope = sc
  calm : X.calm = true
  room : Room k X.A
  nd : N.Nodup
  fn : ∀ x, own.names.lookup x = some .cell → X.fn x = true
  xe : X.xe = fun _ _ => False
  kind : sc.kind = .function

/-- the data at the slots -/
def SD (ρ : List (Option PyData)) (σ : L2.St) (G : Hp) : Prop := σ.length = ρ.length ∧ ∀ (i : Nat) d, ρ[i]? = some (some d) → ∃ v, σ[i]? = some (some v) ∧ Da G v d
def Ok (T : Dom) (ρ : List (Option PyData)) (σ : L2.St) (H : Hp) : Prop := TOk T H ∧ SD ρ σ (hid T H)
section
variable {T : Dom} {ρ : List (Option PyData)} {σ : L2.St} {H H' G G' : Hp} {v : V} {d : PyData} {i : Nat}
theorem SD.mono (x : SD ρ σ G) (e : Same G G') : SD ρ σ G' := ⟨x.1, fun i d h => let ⟨v, h1, h2⟩ := x.2 i d h; ⟨v, h1, h2.mono e⟩⟩
theorem SD.set (x : SD ρ σ G) (h : Da G v d) : SD (ρ.set i (some d)) (σ.set i (some v)) G := by
  refine ⟨by rw [List.length_set, List.length_set]; exact x.1, fun j e hj => ?_⟩
  by_cases z : i = j
  · subst z
    have hl : i < (ρ.set i (some d)).length := (List.getElem?_eq_some_iff.mp hj).1
    rw [List.length_set] at hl
    rw [List.getElem?_set_self hl] at hj
    cases hj
    exact ⟨v, List.getElem?_set_self (by rw [x.1]; exact hl), h⟩
  · rw [List.getElem?_set_ne z] at hj
    rw [List.getElem?_set_ne z]
    exact x.2 j e hj
/-- a slot of which nothing is told -/
theorem SD.put (x : SD ρ σ G) (i : Nat) (v : Option V) : SD (ρ.set i none) (σ.set i v) G := by
  refine ⟨by rw [List.length_set, List.length_set]; exact x.1, fun j e hj => ?_⟩
  by_cases z : i = j
  · subst z
    have hl : i < (ρ.set i none).length := (List.getElem?_eq_some_iff.mp hj).1
    rw [List.length_set] at hl
    rw [List.getElem?_set_self hl] at hj
    cases hj
  · rw [List.getElem?_set_ne z] at hj
    rw [List.getElem?_set_ne z]
    exact x.2 j e hj
/-- less told -/
theorem SD.less {ρ' : List (Option PyData)} (x : SD ρ σ G) (hl : ρ'.length = ρ.length) (h : ∀ (i : Nat) d, ρ'[i]? = some (some d) → ρ[i]? = some (some d)) : SD ρ' σ G := ⟨x.1.trans hl.symm, fun i d e => x.2 i d (h i d e)⟩
theorem Ok.same (x : Ok T ρ σ H) (e : Same H H') : Ok T ρ σ H' := ⟨x.1.mono e, x.2.mono (same_hid e)⟩
theorem Ok.set (x : Ok T ρ σ H) (h : Da (hid T H) v d) : Ok T (ρ.set i (some d)) (σ.set i (some v)) H := ⟨x.1, x.2.set h⟩
theorem Ok.put (x : Ok T ρ σ H) (i : Nat) (v : Option V) : Ok T (ρ.set i none) (σ.set i v) H := ⟨x.1, x.2.put i v⟩
theorem Ok.at (x : Ok T ρ σ H) (h : ρ[i]? = some (some d)) : ∃ v, σ[i]? = some (some v) ∧ Da (hid T H) v d := x.2.2 i d h
end

/-! ### a new tuple: tracked as such, or with its own object known, as one likes -/
def NewT (H : Hp) (ys : List V) (Q : VK) : Prop := ∀ p (o : Obj), H p = none → o.dict = none → Q (.ref p) (upd H p (.tup ys)) ∨ Q (.ref p) (upd H p (.frz o (.tup ys)))
theorem hid_new {T : Dom} {H : Hp} {p : Addr} {o : HO} (k : TOk T H) (h : H p = none) : hid T (upd H p o) p = some o := by
  rw [hid_no (k.not h), upd_same]
theorem newT_of {T : Dom} {H : Hp} {ys : List V} {ds : List PyData} {Q : VK} (k : TOk T H) (h : Das (hid T H) ys ds) (q : ∀ p u, H p = none → Da (hid T (upd H p u)) (.ref p) (.tuple ds) → Q (.ref p) (upd H p u)) : NewT H ys Q := fun p o np od => by
  cases m : mustP ds with
  | false => exact .inl (q p _ np (.tup (.inl ⟨m, hid_new k np⟩) (h.mono (same_hid (same_new np)))))
  | true => exact .inr (q p _ np (.tup (.inr ⟨m, o, hid_new k np, od⟩) (h.mono (same_hid (same_new np)))))
section
variable {X : Cx} {pins : List (Addr × Obj)} {σ : L2.St} {H : Hp} {s : Shared}
theorem newT_go {ys : List V} {its : List Value} {Q : VK} (I : L2.Inv X pins σ H s) (r : Vals ys its) (hz : ys.length ≤ sizeLine) (N : NewT H ys Q) :
    EP X pins σ Q (.ref s.heap.objs.size) { s with heap := s.heap.push { cls := .type "tuple", data := .seq its.toArray } } := by
  have hn : H s.heap.objs.size = none := I.hok.fresh (Nat.le_refl _)
  rcases N s.heap.objs.size { cls := .type "tuple", data := .seq its.toArray } hn rfl with q | q
  · exact ⟨.ref s.heap.objs.size, _, I.laid (t' := s.toks) (fun b ob e => Heap.get?_push_of_some _ e) (Nat.le_refl _) (show ObjOk X.prog X.w _ _ _ (.tup ys) from ⟨hz, its, r, IsTup.new _ _⟩), rfl, q⟩
  · exact ⟨.ref s.heap.objs.size, _, I.laid (t' := s.toks) (fun b ob e => Heap.get?_push_of_some _ e) (Nat.le_refl _) (show ObjOk X.prog X.w _ _ _ (.frz _ (.tup ys)) from ⟨Heap.get?_push_size _ rfl, hz, its, r, IsTup.new _ _⟩), rfl, q⟩
theorem pe_tupN {es : List Expr} {t : TA} {j : Nat} {pos : Pos} (h : PA X es t) : PE X (.Tuple es j pos) (fun σ H Q => t σ H fun xs H1 => xs.length ≤ sizeLine ∧ NewT H1 xs Q) := by
  refine ⟨fun pins s σ H Q I hq => ?_⟩
  refine wpAny_Tuple_spliced (thn (h.run pos pins s σ H _ I hq) fun us s1 ⟨xs, H1, I1, r, z, q⟩ => ⟨by rw [← r.length]; exact z, ?_⟩)
  exact newT_go I1 r z q
theorem call_tuple_ofN : CallR X (.type "tuple") (fun xs H Q => ∃ p ys, xs = [.ref p] ∧ ((SqL X.K H p ys ∧ NewT H ys Q) ∨ (SqT X.K H p ys ∧ Q (.ref p) H))) := by
  intro pins s σ H xs us Q I r h
  obtain ⟨p, ys, rfl, h⟩ := h
  rw [Vals.ref1 r]
  rcases h with ⟨hq, q⟩ | ⟨hq, q⟩
  · obtain ⟨its, r', pl, hz⟩ := I.list hq
    have hlen := r'.length
    refine call_tuple_list pl.isList (fun h' kp => ?_) (by simp only [List.size_toArray] <;> omega)
    have I1 : L2.Inv X pins σ H { s with heap := h' } := I.kept (t' := s.toks) kp
    exact newT_go I1 r' hz q
  · obtain ⟨its, r', pl, hz⟩ := I.tuple hq
    exact call_tuple_same pl ⟨.ref p, H, I, rfl, q⟩
def rCatN (K : PySem.W.Frag) : R2 := fun x y H Q => ∃ a b xs ys, x = .ref a ∧ y = .ref b ∧ SqT K H a xs ∧ SqT K H b ys ∧ xs.length + ys.length ≤ sizeLine ∧
  (xs = [] → Q (.ref b) H) ∧ (xs ≠ [] → ys = [] → Q (.ref a) H) ∧ (xs ≠ [] → ys ≠ [] → NewT H (xs ++ ys) Q)
theorem op_catN : OpR X (binaryOp .Add) (rCatN X.K) := by
  intro pins s σ H x y v u Q I rx ry h
  obtain ⟨a, b, xs, ys, rfl, rfl, ha, hb, hz, q0, q1, q2⟩ := h
  by_cases hx : xs = []
  · exact op_catA pins s σ H _ _ v u Q I rx ry ⟨a, b, xs, ys, rfl, rfl, ha, hb, hz, q0, q1, fun z => absurd hx z⟩
  cases rx
  cases ry
  obtain ⟨its, r1, p1, _⟩ := I.tuple ha
  obtain ⟨its2, r2, p2, _⟩ := I.tuple hb
  refine HT.cat_tup p1 p2 (fun z => hx (r1.nil_iff.mp z)) (fun z => ⟨.ref a, H, I, rfl, q1 hx (r2.nil_iff.mp z)⟩) (fun z => ?_) (by rw [← r1.length, ← r2.length]; exact hz)
  exact newT_go I (r1.append r2) (by rw [List.length_append]; exact hz) (q2 hx (fun w => z (r2.nil_iff.mpr w)))
def rSlN (K : PySem.W.Frag) : V → Option Int → Option Int → Hp → VK → Prop := fun x lo hi H Q => ∃ a xs, x = .ref a ∧ SqT K H a xs ∧
  (HT.sIx xs.length 0 lo = 0 ∧ HT.sIx xs.length xs.length hi = xs.length → Q (.ref a) H) ∧ (¬ (HT.sIx xs.length 0 lo = 0 ∧ HT.sIx xs.length xs.length hi = xs.length) → NewT H (cutV xs lo hi) Q)
theorem sl_tupN : SlR X (rSlN X.K) := by
  intro pins s σ H x v vl vu lo hi sl Q I rx hs pl pu h
  obtain ⟨a, xs, rfl, hx, q1, q2⟩ := h
  by_cases hw : HT.sIx xs.length 0 lo = 0 ∧ HT.sIx xs.length xs.length hi = xs.length
  · exact sl_tupA pins s σ H _ v vl vu lo hi sl Q I rx hs pl pu ⟨a, xs, rfl, hx, q1, fun z => absurd hw z⟩
  cases rx
  obtain ⟨its, r, ht, hz⟩ := I.tuple hx
  have hlen : its.toArray.size = xs.length := by rw [List.size_toArray]; exact r.length.symm
  refine ⟨"tuple", _, PyProof.Rows.slot_tuple_getitem.lookup, ht.typeIs, ?_⟩
  refine HT.getItem_tuple_cut ht hs pl pu (by rw [hlen]; exact hw) ?_ (by rw [hlen]; exact hz)
  rw [hlen]
  exact newT_go I ((r.drop (HT.sIx xs.length 0 lo)).take (HT.sIx xs.length xs.length hi - HT.sIx xs.length 0 lo)) (Nat.le_trans (cutV_length xs lo hi) hz) (q2 hw)
end

/-- in the data environment ρ the expression e gives d; nothing that is tracked changes -/
def E (X : Cx) (T : Dom) (ρ : List (Option PyData)) (e : Expr) (d : PyData) : Prop :=
  ∀ σ H Q, Ok T ρ σ H → (∀ v H', Same H H' → Da (hid T H') v d → Q v H') → we X e σ H Q
/-- a test -/
def ET (X : Cx) (T : Dom) (ρ : List (Option PyData)) (e : Expr) (b : Bool) : Prop :=
  ∀ σ H Q, Ok T ρ σ H → (∀ H', Same H H' → Q b H') → wt X e σ H Q
/-- arguments -/
def EA (X : Cx) (T : Dom) (ρ : List (Option PyData)) (es : List Expr) (ds : List PyData) : Prop :=
  ∀ σ H Q, Ok T ρ σ H → (∀ vs H', Same H H' → Das (hid T H') vs ds → Q vs H') → wa X es σ H Q

def plainE : Expr → Bool
  | .Starred _ _ => false
  | _ => true
theorem star_plain {e : Expr} {es : List Expr} {env : Env} (h : plainE e = true) : starEach (e :: es) env = (false, eval e env) :: starEach es env := by
  cases e <;> first | rfl | cases h
theorem back_plain {env : Env} {pos : Pos} : ∀ {es : List Expr}, es.all plainE = true → (backTo pos (starEach es env)).any (·.1) = false
  | [], _ => rfl
  | e :: es, h => by
    rw [List.all_cons, Bool.and_eq_true] at h
    rw [star_plain h.1]
    show (false || (backTo pos (starEach es env)).any (·.1)) = false
    rw [back_plain h.2] <;> rfl

section
variable {P : Program} {w : World} {K : PySem.W.Frag} {mg : Str → Option Value} {base : Heap} {k : Nat} {N : List Str} {sc own : Scope} {X : Cx} {T : Dom} {ρ : List (Option PyData)} {pos : Pos}

/-! ### names and constants -/
def nameOk (N : List Str) (sc : Scope) (i : Nat) (x : Str) : Bool :=
  decide (N[i]? = some x) && (match sc.names.lookup x with | some .local => true | some .cell => true | some .free => true | _ => false) && !(x == ("__debug__" : Str)) && !(x == ("__classdict__" : Str))
theorem pe_name (C : At P w K mg base k N sc own X) {x : Str} (i : Nat) (h : nameOk N sc i x = true) : PE X (.Name x pos) (tVar i) := by
  unfold nameOk at h
  simp only [Bool.and_eq_true, Bool.not_eq_true', decide_eq_true_eq] at h
  obtain ⟨⟨⟨h1, h2⟩, h3⟩, h4⟩ := h
  refine pe_var (by rw [C.eN]; exact h1) ?_ h3 h4
  unfold Vis
  rw [C.esc]
  split at h2
  · rename_i e; exact .inl e
  · rename_i e; exact .inr (.inl e)
  · rename_i e; exact .inr (.inr e)
  · cases h2
theorem e_var (C : At P w K mg base k N sc own X) {x : Str} (i : Nat) {d : PyData} (hr : ρ[i]? = some (some d)) (h : nameOk N sc i x = true := by decide +kernel) : E X T ρ (.Name x pos) d := fun σ H Q ok q => by
  obtain ⟨v, h1, h2⟩ := ok.at hr
  exact to_we (pe_name C i h) ⟨v, h1, q v H (Same.refl H) h2⟩
theorem e_int {i : Int} {j} : E X T ρ (.Constant (.int i) j pos) (.int i) := fun σ H Q ok q => to_we pe_int (q _ H (Same.refl H) (.int i))
theorem e_str {x : Str} {j} : E X T ρ (.Constant (.str x) j pos) (.str x) := fun σ H Q ok q => to_we pe_str (q _ H (Same.refl H) (.str x))
theorem e_none {j} : E X T ρ (.Constant .none j pos) .none := fun σ H Q ok q => to_we pe_non (q _ H (Same.refl H) .non)
theorem e_bool {b : Bool} {j} : E X T ρ (.Constant (.bool b) j pos) (.bool b) := fun σ H Q ok q => to_we pe_bl (q _ H (Same.refl H) (.bl b))
def globOk (sc : Scope) (x : Str) : Bool := (match sc.names.lookup x with | some .globalImplicit => true | _ => false) && !(x == ("__debug__" : Str)) && !(x == ("__name__" : Str))
theorem globOk.ok {x : Str} (h : globOk sc x = true) : sc.names.lookup x = some .globalImplicit ∧ (x == ("__debug__" : Str)) = false ∧ x ≠ "__name__" := by
  unfold globOk at h
  simp only [Bool.and_eq_true, Bool.not_eq_true'] at h
  obtain ⟨⟨h1, h2⟩, h3⟩ := h
  refine ⟨?_, h2, fun e => by rw [e] at h3; simp at h3⟩
  split at h1
  · assumption
  · cases h1
theorem At.gl (C : At P w K mg base k N sc own X) {x : Str} (h : globOk sc x = true) : Gl X x := by
  show X.env.scope.names.lookup x = some .globalImplicit
  rw [C.esc]
  exact (globOk.ok h).1
theorem e_glob (C : At P w K mg base k N sc own X) {x : Str} {i : Int} {t : Tok} (hm : mg x = some (.int i t)) (h : globOk sc x = true := by decide +kernel) : E X T ρ (.Name x pos) (.int i) := fun σ H Q ok q =>
  to_we (pe_glob (v := .int i) (C.gl h) (by rw [C.emg]; exact hm) ⟨t, rfl⟩ (globOk.ok h).2.1) (q _ H (Same.refl H) (.int i))

/-! ### arguments, displays -/
theorem ea_nil : EA X T ρ [] [] := fun σ H Q ok q => to_wa pa_nil (q [] H (Same.refl H) .nil)
theorem ea_cons {e : Expr} {es : List Expr} {d : PyData} {ds : List PyData} (h : E X T ρ e d) (hs : EA X T ρ es ds) (hp : plainE e = true := by rfl) : EA X T ρ (e :: es) (d :: ds) := fun σ H Q ok q =>
  to_wa (pa_cons pe_we pa_wa (star_plain hp)) (h σ H _ ok fun v H1 e1 h1 => hs σ H1 _ (ok.same e1) fun vs H2 e2 h2 => q _ H2 (e1.trans e2) (.cons (h1.mono (same_hid e2)) h2))
theorem e_tup {es : List Expr} {ds : List PyData} {j : Nat} (h : EA X T ρ es ds) (hl : ds.length ≤ 1000 := by decide) : E X T ρ (.Tuple es j pos) (.tuple ds) := fun σ H Q ok q =>
  to_we (pe_tupN pa_wa) (h σ H _ ok fun vs H1 e1 h1 => ⟨by rw [h1.length]; exact Nat.le_of_lt (small1000 hl), newT_of (ok.1.mono e1) h1 fun p u np d => q _ _ (same_new2 e1 np) d⟩)
theorem e_list {es : List Expr} {ds : List PyData} (h : EA X T ρ es ds) (hl : ds.length ≤ 1000 := by decide) : E X T ρ (.List es pos) (.list ds) := fun σ H Q ok q =>
  to_we (pe_lst pa_wa) (h σ H _ ok fun vs H1 e1 h1 => ⟨by rw [h1.length]; exact Nat.le_of_lt (small1000 hl), fun p np => q _ _ (same_new2 e1 np) (.lst (hid_new (ok.1.mono e1) np) (h1.mono (same_hid (same_new np))))⟩)

/-! ### operators: first two values, then what the rule asks -/
theorem we_op {op : Operator} {r : R2} {a b : Expr} {σ : L2.St} {H : Hp} {Q : VK} (ho : OpR X (binaryOp op) r) (h : we X a σ H fun x H1 => we X b σ H1 fun y H2 => r x y H2 Q) : we X (.BinOp a op b pos) σ H Q := to_we (pe_op ho pe_we pe_we) h
theorem we_cmp {op : CmpOp} {r : R2} {a b : Expr} {σ : L2.St} {H : Hp} {Q : VK} (ho : OpR X (compareOp op) r) (hm : behindInMarks op b = false) (h : we X a σ H fun x H1 => we X b σ H1 fun y H2 => r x y H2 Q) : we X (.Compare a [op] [b] pos) σ H Q := to_we (pe_cmpR ho pe_we pe_we hm) h
theorem wt_cmp {op : CmpOp} {r : R2} {a b : Expr} {σ : L2.St} {H : Hp} {Q : Bool → Hp → Prop} (ho : OpR X (compareOp op) r) (hm : behindInMarks op b = false) (h : we X a σ H fun x H1 => we X b σ H1 fun y H2 => r x y H2 fun z H3 => ∃ c, z = .bl c ∧ Q c H3) : wt X (.Compare a [op] [b] pos) σ H Q :=
  to_wt (pt_cmpR ho pe_we pe_we hm) h
/-- two data one after the other -/
theorem two {a b : Expr} {da db : PyData} {σ : L2.St} {H : Hp} {R : V → V → Hp → Prop} (ha : E X T ρ a da) (hb : E X T ρ b db) (ok : Ok T ρ σ H)
    (h : ∀ x y H', Same H H' → Da (hid T H') x da → Da (hid T H') y db → R x y H') : we X a σ H fun x H1 => we X b σ H1 fun y H2 => R x y H2 :=
  ha σ H _ ok fun x H1 e1 h1 => hb σ H1 _ (ok.same e1) fun y H2 e2 h2 => h x y H2 (e1.trans e2) (h1.mono (same_hid e2)) h2
theorem Da.int_inv {G : Hp} {v : V} {i : Int} (h : Da G v (.int i)) : v = .int i := by cases h; rfl
theorem Da.str_inv {G : Hp} {v : V} {x : Str} (h : Da G v (.str x)) : v = .str x := by cases h; rfl
theorem Da.bool_inv {G : Hp} {v : V} {i : Bool} (h : Da G v (.bool i)) : v = .bl i := by cases h; rfl
theorem Da.none_inv {G : Hp} {v : V} (h : Da G v .none) : v = .non := by cases h; rfl
theorem Da.tup_inv {G : Hp} {v : V} {ds : List PyData} (h : Da G v (.tuple ds)) : ∃ a vs, v = .ref a ∧ Rd G a (.tup vs) ∧ Das G vs ds := by
  cases h with
  | tup h hs => exact ⟨_, _, rfl, h.rd, hs⟩
theorem Da.tup_lab {G : Hp} {v : V} {ds : List PyData} (h : Da G v (.tuple ds)) : ∃ a vs, v = .ref a ∧ Lab G a vs ds ∧ Das G vs ds := by
  cases h with
  | tup h hs => exact ⟨_, _, rfl, h, hs⟩
theorem Da.lst_inv {G : Hp} {v : V} {ds : List PyData} (h : Da G v (.list ds)) : ∃ a vs, v = .ref a ∧ G a = some (.lst vs) ∧ Das G vs ds := by
  cases h with
  | lst h hs => exact ⟨_, _, rfl, h, hs⟩
theorem e_bin {op : Operator} {g : Int → Int → Int} {C : Int → Int → Prop} {a b : Expr} {i j : Int} (ho : OpR X (binaryOp op) (rI C fun i j => .int (g i j))) (ha : E X T ρ a (.int i)) (hb : E X T ρ b (.int j)) (hc : C i j) : E X T ρ (.BinOp a op b pos) (.int (g i j)) := fun σ H Q ok q =>
  we_op ho (two ha hb ok fun x y H' e hx hy => ⟨i, j, hx.int_inv, hy.int_inv, hc, q _ H' e (.int _)⟩)
theorem e_add {a b : Expr} {i j : Int} (ha : E X T ρ a (.int i)) (hb : E X T ρ b (.int j)) : E X T ρ (.BinOp a .Add b pos) (.int (i + j)) := fun σ H Q ok q =>
  we_op op_add (two ha hb ok fun x y H' e hx hy => ⟨i, j, hx.int_inv, hy.int_inv, q _ H' e (.int _)⟩)
theorem e_sub {a b : Expr} {i j : Int} (ha : E X T ρ a (.int i)) (hb : E X T ρ b (.int j)) : E X T ρ (.BinOp a .Sub b pos) (.int (i - j)) := fun σ H Q ok q =>
  we_op op_sub (two ha hb ok fun x y H' e hx hy => ⟨i, j, hx.int_inv, hy.int_inv, q _ H' e (.int _)⟩)
theorem e_mul {a b : Expr} {i j : Int} (ha : E X T ρ a (.int i)) (hb : E X T ρ b (.int j)) (hc : CMul i j) : E X T ρ (.BinOp a .Mult b pos) (.int (i * j)) := e_bin op_mul ha hb hc
theorem e_mod {a b : Expr} {i j : Int} (ha : E X T ρ a (.int i)) (hb : E X T ρ b (.int j)) (hc : 0 < j) : E X T ρ (.BinOp a .Mod b pos) (.int (i % j)) := e_bin op_mod ha hb hc
theorem seqT {H : Hp} {a : Addr} {vs : List V} (h : Rd (hid T H) a (.tup vs)) : SqT X.K H a vs := .inl (rd_mono hid_le h)
theorem seqL {H : Hp} {a : Addr} {vs : List V} (h : hid T H a = some (.lst vs)) : SqL X.K H a vs := .inl (.inl (hid_le _ _ h))
/-- tuple + tuple -/
theorem e_cat {a b : Expr} {ds es : List PyData} (ha : E X T ρ a (.tuple ds)) (hb : E X T ρ b (.tuple es)) (hl : ds.length + es.length ≤ 1000 := by decide) : E X T ρ (.BinOp a .Add b pos) (.tuple (ds ++ es)) := fun σ H Q ok q =>
  we_op op_catN (two ha hb ok fun x y H' e hx hy => by
    have hx0 := hx
    have hy0 := hy
    obtain ⟨p, vs, rfl, hp, hvs⟩ := hx.tup_inv
    obtain ⟨r, us, rfl, hr, hus⟩ := hy.tup_inv
    refine ⟨p, r, vs, us, rfl, rfl, seqT hp, seqT hr, by rw [hvs.length, hus.length]; exact Nat.le_of_lt (small1000 hl), fun z => ?_, fun z1 z2 => ?_, fun z1 z2 => ?_⟩
    · subst z
      have e0 : ds = [] := by cases hvs; rfl
      subst e0
      exact q _ _ e hy0
    · subst z2
      have e0 : es = [] := by cases hus; rfl
      subst e0
      exact q _ _ e (by rw [List.append_nil]; exact hx0)
    · exact newT_of (ok.1.mono e) (hvs.append hus) fun n u nn d => q _ _ (same_new2 e nn) d)
/-- list + list -/
theorem e_catL {a b : Expr} {ds es : List PyData} (ha : E X T ρ a (.list ds)) (hb : E X T ρ b (.list es)) (hl : ds.length + es.length ≤ 1000 := by decide) : E X T ρ (.BinOp a .Add b pos) (.list (ds ++ es)) := fun σ H Q ok q =>
  we_op op_cat (two ha hb ok fun x y H' e hx hy => by
    obtain ⟨p, vs, rfl, hp, hvs⟩ := hx.lst_inv
    obtain ⟨r, us, rfl, hr, hus⟩ := hy.lst_inv
    exact ⟨p, r, vs, us, rfl, rfl, hid_le _ _ hp, hid_le _ _ hr, by rw [hvs.length, hus.length]; exact Nat.le_of_lt (small1000 hl), fun n nn => q _ _ (same_new2 e nn) (.lst (hid_new (ok.1.mono e) nn) ((hvs.append hus).mono (same_hid (same_new nn))))⟩)

/-! ### subscripts -/
theorem we_ix {r : R2} {a b : Expr} {σ : L2.St} {H : Hp} {Q : VK} (hr : IxR X r) (h : we X a σ H fun x H1 => we X b σ H1 fun y H2 => r x y H2 Q) (hs : PlainIx b) : we X (.Subscript a b pos) σ H Q := to_we (pe_ix hr pe_we pe_we hs) h
theorem e_ix {a b : Expr} {ds : List PyData} {j : Nat} {i : Int} {d : PyData} (ha : E X T ρ a (.tuple ds)) (hb : E X T ρ b (.int i)) (he : i = (j : Int)) (hd : ds[j]? = some d) (hs : PlainIx b := by intro _ _; rfl) : E X T ρ (.Subscript a b pos) d := fun σ H Q ok q =>
  we_ix ix_tup (two ha hb ok fun x y H' e hx hy => by
    obtain ⟨p, vs, rfl, hp, hvs⟩ := hx.tup_inv
    obtain ⟨v, hv, dv⟩ := hvs.get hd
    exact ⟨p, vs, i, v, rfl, hy.int_inv, seqT hp, by rw [he]; exact atI_nat hv, q v H' e dv⟩) hs
theorem e_ixL {a b : Expr} {ds : List PyData} {j : Nat} {i : Int} {d : PyData} (ha : E X T ρ a (.list ds)) (hb : E X T ρ b (.int i)) (he : i = (j : Int)) (hd : ds[j]? = some d) (hs : PlainIx b := by intro _ _; rfl) : E X T ρ (.Subscript a b pos) d := fun σ H Q ok q =>
  we_ix ix_list (two ha hb ok fun x y H' e hx hy => by
    obtain ⟨p, vs, rfl, hp, hvs⟩ := hx.lst_inv
    obtain ⟨v, hv, dv⟩ := hvs.get hd
    exact ⟨p, vs, i, v, rfl, hy.int_inv, seqL hp, by rw [he]; exact atI_nat hv, q v H' e dv⟩) hs
/-- a part of a slice -/
def EO (X : Cx) (T : Dom) (ρ : List (Option PyData)) (e : Option Expr) (o : Option Nat) : Prop := match e, o with
  | none, none => True
  | some e, some n => E X T ρ e (.int (n : Int))
  | _, _ => False
def nI : Option Nat → Option Int
  | none => none
  | some n => some (n : Int)
theorem part_go {e : Option Expr} {o : Option Nat} {σ : L2.St} {H : Hp} {Q : Option Int → Hp → Prop} (h : EO X T ρ e o) (ok : Ok T ρ σ H) (q : ∀ H', Same H H' → Q (nI o) H') : ∃ t, PO X e t ∧ t σ H Q := by
  cases e with
  | none =>
    cases o with
    | none => exact ⟨_, po_none, q H (Same.refl H)⟩
    | some n => exact False.elim h
  | some e =>
    cases o with
    | none => exact False.elim h
    | some n =>
      have h' : E X T ρ e (.int (n : Int)) := h
      exact ⟨_, po_some pe_we, h' σ H _ ok fun v H1 e1 h1 => ⟨_, h1.int_inv, q H1 e1⟩⟩
/-- a slice -/
def cutG {α : Type} (ds : List α) (lo hi : Option Nat) : List α := match lo, hi with
  | none, none => ds
  | some i, none => ds.drop i
  | none, some j => ds.take j
  | some i, some j => (ds.drop i).take (j - i)
abbrev cutD (ds : List PyData) (lo hi : Option Nat) : List PyData := cutG ds lo hi
theorem cutG_is {α : Type} (xs : List α) (lo hi : Option Nat) : (xs.drop (HT.sIx xs.length 0 (nI lo))).take (HT.sIx xs.length xs.length (nI hi) - HT.sIx xs.length 0 (nI lo)) = cutG xs lo hi := by
  have tk : ∀ (l : List α) (a b : Nat), l.length ≤ a → l.length ≤ b → l.take a = l.take b := fun l a b p q => by rw [List.take_of_length_le p, List.take_of_length_le q]
  unfold cutG
  cases lo with
  | none =>
    cases hi with
    | none =>
      show (xs.drop (HT.sIx xs.length 0 none)).take (HT.sIx xs.length xs.length none - HT.sIx xs.length 0 none) = xs
      rw [HT.sIx_none, HT.sIx_none, List.drop_zero, Nat.sub_zero, List.take_length]
    | some j =>
      show (xs.drop (HT.sIx xs.length 0 none)).take (HT.sIx xs.length xs.length (some (j : Int)) - HT.sIx xs.length 0 none) = xs.take j
      rw [HT.sIx_none, HT.sIx_nat, List.drop_zero, Nat.sub_zero]
      by_cases z : j ≤ xs.length
      · rw [Nat.min_eq_left z]
      · exact tk _ _ _ (by omega) (by omega)
  | some i =>
    have ed : xs.drop (min i xs.length) = xs.drop i := by
      by_cases z : i ≤ xs.length
      · rw [Nat.min_eq_left z]
      · rw [List.drop_eq_nil_of_le (by omega), List.drop_eq_nil_of_le (by omega)]
    cases hi with
    | none =>
      show (xs.drop (HT.sIx xs.length 0 (some (i : Int)))).take (HT.sIx xs.length xs.length none - HT.sIx xs.length 0 (some (i : Int))) = xs.drop i
      rw [HT.sIx_none, HT.sIx_nat, ed, List.take_of_length_le (by rw [List.length_drop]; omega)]
    | some j =>
      show (xs.drop (HT.sIx xs.length 0 (some (i : Int)))).take (HT.sIx xs.length xs.length (some (j : Int)) - HT.sIx xs.length 0 (some (i : Int))) = (xs.drop i).take (j - i)
      rw [HT.sIx_nat, HT.sIx_nat, ed]
      by_cases z : j ≤ xs.length
      · by_cases y : i ≤ xs.length
        · rw [Nat.min_eq_left z, Nat.min_eq_left y]
        · exact tk _ _ _ (by rw [List.length_drop]; omega) (by rw [List.length_drop]; omega)
      · exact tk _ _ _ (by rw [List.length_drop]; omega) (by rw [List.length_drop]; omega)
theorem cut_is (xs : List V) (ds : List PyData) {G : Hp} (h : Das G xs ds) (lo hi : Option Nat) : Das G (cutV xs (nI lo) (nI hi)) (cutD ds lo hi) := by
  have e : cutV xs (nI lo) (nI hi) = cutG xs lo hi := cutG_is xs lo hi
  rw [e]
  unfold cutD cutG
  cases lo with
  | none =>
    cases hi with
    | none => exact h
    | some j => exact h.take j
  | some i =>
    cases hi with
    | none => exact h.drop i
    | some j => exact (h.drop i).take (j - i)
theorem cut_all {α β : Type} {xs : List α} {ds : List β} {lo hi : Option Nat} {l u : Option Int} (hl : xs.length = ds.length) (e1 : nI lo = l) (e2 : nI hi = u) (z : HT.sIx xs.length 0 l = 0 ∧ HT.sIx xs.length xs.length u = xs.length) : cutG ds lo hi = ds := by
  rw [← cutG_is, e1, e2, ← hl, z.1, z.2, List.drop_zero, Nat.sub_zero, hl, List.take_length]
theorem sl_go {ds : List PyData} {lo hi : Option Nat} {l u : Option Int} {v : V} {H H' : Hp} {Q : VK} (k : TOk T H) (e : Same H H') (hv : Da (hid T H') v (.tuple ds)) (e1 : nI lo = l) (e2 : nI hi = u)
    (q : ∀ v H', Same H H' → Da (hid T H') v (.tuple (cutD ds lo hi)) → Q v H') : rSlN X.K v l u H' Q := by
  have hv0 := hv
  obtain ⟨p, vs, rfl, hp, hvs⟩ := hv.tup_inv
  refine ⟨p, vs, rfl, seqT hp, fun z => q _ _ e ?_, fun z => ?_⟩
  · rw [show cutD ds lo hi = ds from cut_all hvs.length e1 e2 z]
    exact hv0
  · subst e1 e2
    exact newT_of (k.mono e) (cut_is vs ds hvs lo hi) fun n u nn d => q _ _ (same_new2 e nn) d
theorem e_sl {a : Expr} {lo hi : Option Expr} {l u : Option Nat} {ds : List PyData} {p2 : Pos} (ha : E X T ρ a (.tuple ds)) (hl : EO X T ρ lo l) (hu : EO X T ρ hi u) : E X T ρ (.Subscript a (.Slice lo hi none p2) pos) (.tuple (cutD ds l u)) := fun σ H Q ok q pins s I => by
  cases lo with
  | none =>
    cases l with
    | some n => exact False.elim hl
    | none =>
      cases hi with
      | none =>
        cases u with
        | some n => exact False.elim hu
        | none => exact (pe_slice sl_tupN pe_we po_none po_none).run pins s σ H Q I (ha σ H _ ok fun v H1 e1 h1 => sl_go ok.1 e1 h1 rfl rfl q)
      | some hi =>
        cases u with
        | none => exact False.elim hu
        | some j =>
          have hu' : E X T ρ hi (.int (j : Int)) := hu
          exact (pe_slice sl_tupN pe_we po_none (po_some pe_we)).run pins s σ H Q I (ha σ H _ ok fun v H1 e1 h1 => hu' σ H1 _ (ok.same e1) fun w H2 e2 h2 => ⟨_, h2.int_inv, sl_go ok.1 (e1.trans e2) (h1.mono (same_hid e2)) rfl rfl q⟩)
  | some lo =>
    cases l with
    | none => exact False.elim hl
    | some i =>
      have hl' : E X T ρ lo (.int (i : Int)) := hl
      cases hi with
      | none =>
        cases u with
        | some n => exact False.elim hu
        | none => exact (pe_slice sl_tupN pe_we (po_some pe_we) po_none).run pins s σ H Q I (ha σ H _ ok fun v H1 e1 h1 => hl' σ H1 _ (ok.same e1) fun w H2 e2 h2 => ⟨_, h2.int_inv, sl_go ok.1 (e1.trans e2) (h1.mono (same_hid e2)) rfl rfl q⟩)
      | some hi =>
        cases u with
        | none => exact False.elim hu
        | some j =>
          have hu' : E X T ρ hi (.int (j : Int)) := hu
          exact (pe_slice sl_tupN pe_we (po_some pe_we) (po_some pe_we)).run pins s σ H Q I (ha σ H _ ok fun v H1 e1 h1 => hl' σ H1 _ (ok.same e1) fun w H2 e2 h2 => ⟨_, h2.int_inv, hu' σ H2 _ (ok.same (e1.trans e2)) fun w3 H3 e3 h3 => ⟨_, h3.int_inv, sl_go ok.1 ((e1.trans e2).trans e3) ((h1.mono (same_hid (e2.trans e3)))) rfl rfl q⟩⟩)
theorem e_slL {a : Expr} {lo hi : Option Expr} {l u : Option Nat} {ds : List PyData} {p2 : Pos} (ha : E X T ρ a (.list ds)) (hl : EO X T ρ lo l) (hu : EO X T ρ hi u) : E X T ρ (.Subscript a (.Slice lo hi none p2) pos) (.list (cutD ds l u)) := fun σ H Q ok q pins s I => by
  cases lo with
  | none =>
    cases l with
    | some n => exact False.elim hl
    | none =>
      cases hi with
      | none =>
        cases u with
        | some n => exact False.elim hu
        | none => exact (pe_slice sl_list pe_we po_none po_none).run pins s σ H Q I (ha σ H _ ok fun v H1 e1 h1 => by
            obtain ⟨p, vs, rfl, hp, hvs⟩ := h1.lst_inv
            exact ⟨p, vs, rfl, seqL hp, fun n nn => q _ _ (same_new2 e1 nn) (.lst (hid_new (ok.1.mono e1) nn) ((cut_is vs ds hvs none none).mono (same_hid (same_new nn))))⟩)
      | some hi =>
        cases u with
        | none => exact False.elim hu
        | some j =>
          have hu' : E X T ρ hi (.int (j : Int)) := hu
          exact (pe_slice sl_list pe_we po_none (po_some pe_we)).run pins s σ H Q I (ha σ H _ ok fun v H1 e1 h1 => hu' σ H1 _ (ok.same e1) fun w H2 e2 h2 => ⟨_, h2.int_inv, by
            obtain ⟨p, vs, rfl, hp, hvs⟩ := (h1.mono (same_hid e2)).lst_inv
            have e3 := e1.trans e2
            exact ⟨p, vs, rfl, seqL hp, fun n nn => q _ _ (same_new2 e3 nn) (.lst (hid_new (ok.1.mono e3) nn) ((cut_is vs ds hvs none (some j)).mono (same_hid (same_new nn))))⟩⟩)
  | some lo =>
    cases l with
    | none => exact False.elim hl
    | some i =>
      have hl' : E X T ρ lo (.int (i : Int)) := hl
      cases hi with
      | none =>
        cases u with
        | some n => exact False.elim hu
        | none => exact (pe_slice sl_list pe_we (po_some pe_we) po_none).run pins s σ H Q I (ha σ H _ ok fun v H1 e1 h1 => hl' σ H1 _ (ok.same e1) fun w H2 e2 h2 => ⟨_, h2.int_inv, by
            obtain ⟨p, vs, rfl, hp, hvs⟩ := (h1.mono (same_hid e2)).lst_inv
            have e3 := e1.trans e2
            exact ⟨p, vs, rfl, seqL hp, fun n nn => q _ _ (same_new2 e3 nn) (.lst (hid_new (ok.1.mono e3) nn) ((cut_is vs ds hvs (some i) none).mono (same_hid (same_new nn))))⟩⟩)
      | some hi =>
        cases u with
        | none => exact False.elim hu
        | some j =>
          have hu' : E X T ρ hi (.int (j : Int)) := hu
          exact (pe_slice sl_list pe_we (po_some pe_we) (po_some pe_we)).run pins s σ H Q I (ha σ H _ ok fun v H1 e1 h1 => hl' σ H1 _ (ok.same e1) fun w H2 e2 h2 => ⟨_, h2.int_inv, hu' σ H2 _ (ok.same (e1.trans e2)) fun w3 H3 e3 h3 => ⟨_, h3.int_inv, by
            obtain ⟨p, vs, rfl, hp, hvs⟩ := (h1.mono (same_hid (e2.trans e3))).lst_inv
            have e4 := (e1.trans e2).trans e3
            exact ⟨p, vs, rfl, seqL hp, fun n nn => q _ _ (same_new2 e4 nn) (.lst (hid_new (ok.1.mono e4) nn) ((cut_is vs ds hvs (some i) (some j)).mono (same_hid (same_new nn))))⟩⟩⟩)
end
end Sk
set_option maxHeartbeats 4000000
/-! SkC: comparisons, and/or/not, conditional expressions, built-in calls, calls of defs. -/
namespace Sk
open PySem PySem.Spec PyProof.Rows L2

mutual
theorem Da.dp {K : PySem.W.Frag} {T : Dom} {H : Hp} : ∀ {v : V} {d : PyData}, d.canLay0 = true → Da (hid T H) v d → Dp K H v d
  | _, _, _, .non => .non
  | _, _, _, .bl b => .bl b
  | _, _, _, .int i => .int i
  | _, _, _, .str x => .str x
  | _, _, f, .tup h hs => .tup (.inl (rd_mono hid_le h.rd)) (Das.dp (by simpa [PyData.canLay0] using f) hs)
  | _, _, f, .lst h hs => .lst (.inl (.inl (hid_le _ _ h))) (Das.dp (by simpa [PyData.canLay0] using f) hs)
  | _, _, f, .dct h => by simp [PyData.canLay0] at f
theorem Das.dp {K : PySem.W.Frag} {T : Dom} {H : Hp} : ∀ {vs : List V} {ds : List PyData}, PyData.canLayAll0 ds = true → Das (hid T H) vs ds → DpAll K H vs ds
  | _, _, _, .nil => .nil
  | _, _, f, .cons h hs => by
    simp only [PyData.canLayAll0, Bool.and_eq_true] at f
    exact .cons (Da.dp f.1 h) (Das.dp f.2 hs)
end

section
variable {P : Program} {w : World} {K : PySem.W.Frag} {mg : Str → Option Value} {base : Heap} {k : Nat} {N : List Str} {sc own : Scope} {X : Cx} {T : Dom} {ρ : List (Option PyData)} {pos : Pos}

theorem At.units (C : At P w K mg base k N sc own X) : X.A.units + 65 < cLine := by
  have := C.room.un
  omega

/-! ### comparisons -/
def EC (X : Cx) (T : Dom) (ρ : List (Option PyData)) (op : CmpOp) (a b : Expr) (c : Bool) : Prop :=
  ∃ r, OpR X (compareOp op) r ∧ ∀ σ H Q, Ok T ρ σ H → (∀ H', Same H H' → Q (.bl c) H') → we X a σ H fun x H1 => we X b σ H1 fun y H2 => r x y H2 Q
theorem e_cmp {op : CmpOp} {a b : Expr} {c : Bool} (h : EC X T ρ op a b c) (hm : behindInMarks op b = false := by first | exact nomark _ | rfl) : E X T ρ (.Compare a [op] [b] pos) (.bool c) := fun σ H Q ok q => by
  obtain ⟨r, ho, h⟩ := h
  exact we_cmp ho hm (h σ H _ ok fun H' e => q _ H' e (.bl c))
theorem et_cmp {op : CmpOp} {a b : Expr} {c : Bool} (h : EC X T ρ op a b c) (hm : behindInMarks op b = false := by first | exact nomark _ | rfl) : ET X T ρ (.Compare a [op] [b] pos) c := fun σ H Q ok q => by
  obtain ⟨r, ho, h⟩ := h
  exact wt_cmp ho hm (h σ H _ ok fun H' e => ⟨c, rfl, q H' e⟩)
theorem EC.is {op : CmpOp} {a b : Expr} {c c' : Bool} (h : EC X T ρ op a b c) (e : c = c') : EC X T ρ op a b c' := e ▸ h
theorem c_int {op : CmpOp} {g : Int → Int → Bool} {a b : Expr} {i j : Int} (ho : OpR X (compareOp op) (rI0 fun i j => .bl (g i j))) (ha : E X T ρ a (.int i)) (hb : E X T ρ b (.int j)) : EC X T ρ op a b (g i j) :=
  ⟨_, ho, fun σ H Q ok q => two ha hb ok fun x y H' e hx hy => ⟨i, j, hx.int_inv, hy.int_inv, q H' e⟩⟩
theorem c_lt {a b : Expr} {i j : Int} (ha : E X T ρ a (.int i)) (hb : E X T ρ b (.int j)) : EC X T ρ .Lt a b (decide (i < j)) := c_int op_lt ha hb
theorem c_le {a b : Expr} {i j : Int} (ha : E X T ρ a (.int i)) (hb : E X T ρ b (.int j)) : EC X T ρ .LtE a b (decide (i ≤ j)) := c_int op_le ha hb
theorem c_gt {a b : Expr} {i j : Int} (ha : E X T ρ a (.int i)) (hb : E X T ρ b (.int j)) : EC X T ρ .Gt a b (decide (j < i)) := c_int op_gt ha hb
theorem c_ge {a b : Expr} {i j : Int} (ha : E X T ρ a (.int i)) (hb : E X T ρ b (.int j)) : EC X T ρ .GtE a b (decide (j ≤ i)) := c_int op_ge ha hb
/-- ==, != of ints by the scalars' rule -/
theorem c_eqI {a b : Expr} {i j : Int} (ha : E X T ρ a (.int i)) (hb : E X T ρ b (.int j)) : EC X T ρ .Eq a b (decide (i = j)) :=
  ⟨_, op_eq, fun σ H Q ok q => two ha hb ok fun x y H' e hx hy => by
    cases hx; cases hy
    refine ⟨rfl, ?_⟩
    rw [show decide (V.int i = V.int j) = decide (i = j) by rw [dec_int, Bool.beq_eq_decide_eq]]
    exact q H' e⟩
def isNone : PyData → Bool
  | .none => true
  | _ => false
theorem Da.isNone {G : Hp} {v : V} {d : PyData} (h : Da G v d) : decide (v = V.non) = Sk.isNone d := by
  cases h <;> first | rfl | exact decide_eq_true rfl | exact decide_eq_false (fun z => nomatch z)
theorem c_isN {a : Expr} {d : PyData} {j pp} (ha : E X T ρ a d) : EC X T ρ .Is a (.Constant .none j pp) (isNone d) :=
  ⟨_, op_isN, fun σ H Q ok q => two ha e_none ok fun x y H' e hx hy => ⟨hy.none_inv, by rw [hx.isNone]; exact q H' e⟩⟩
theorem c_notN {a : Expr} {d : PyData} {j pp} (ha : E X T ρ a d) : EC X T ρ .IsNot a (.Constant .none j pp) (!isNone d) :=
  ⟨_, op_notN, fun σ H Q ok q => two ha e_none ok fun x y H' e hx hy => ⟨hy.none_inv, by rw [hx.isNone]; exact q H' e⟩⟩
/-- ==, !=, in, not in of data -/
abbrev Lay (d : PyData) : Prop := SeqAt.shaped d = true
theorem c_eq (C : At P w K mg base k N sc own X) {a b : Expr} {d e : PyData} (ha : E X T ρ a d) (hb : E X T ρ b e) (sd : Lay d) (se : Lay e) : EC X T ρ .Eq a b (PyData.eqv d e) :=
  ⟨_, op_eqD (by have := C.units; omega), fun σ H Q ok q => two ha hb ok fun x y H' z hx hy => ⟨d, e, hx.dp (SeqAt.canLay_of_shaped sd), hy.dp (SeqAt.canLay_of_shaped se), sd, se, q H' z⟩⟩
theorem c_ne (C : At P w K mg base k N sc own X) {a b : Expr} {d e : PyData} (ha : E X T ρ a d) (hb : E X T ρ b e) (sd : Lay d) (se : Lay e) : EC X T ρ .NotEq a b (!PyData.eqv d e) :=
  ⟨_, op_neD (by have := C.units; omega), fun σ H Q ok q => two ha hb ok fun x y H' z hx hy => ⟨d, e, hx.dp (SeqAt.canLay_of_shaped sd), hy.dp (SeqAt.canLay_of_shaped se), sd, se, q H' z⟩⟩
/-- x in t, t a tuple -/
def rInU (K : PySem.W.Frag) : R2 := fun x y H Q => ∃ d ds, Dp K H x d ∧ Dp K H y (.tuple ds) ∧ SeqAt.shaped d = true ∧ SeqAt.shaped (.tuple ds) = true ∧ Q (.bl (ds.any fun z => PyData.eqv z d)) H
def rNotInU (K : PySem.W.Frag) : R2 := fun x y H Q => ∃ d ds, Dp K H x d ∧ Dp K H y (.tuple ds) ∧ SeqAt.shaped d = true ∧ SeqAt.shaped (.tuple ds) = true ∧ Q (.bl (!ds.any fun z => PyData.eqv z d)) H
theorem op_inU (hu : X.A.units + 65 < cLine) : OpR X (compareOp .In) (rInU X.K) := by
  intro pins s σ H x y v u Q I rx ry h
  obtain ⟨d, ds, hd, he, sd, se, q⟩ := h
  obtain ⟨xs, r1⟩ := Dp.reads I d x v hd rx
  obtain ⟨ys, r2⟩ := Dp.reads I (.tuple ds) y u he ry
  refine SeqAt.in_tuple_reads r2 r1 (SeqAt.canLay_of_shaped se) (SeqAt.canLay_of_shaped sd) ?_ ⟨.bl _, H, I, rfl, q⟩
  have := SeqAt.depth_of_shaped sd
  omega
theorem op_notInU (hu : X.A.units + 65 < cLine) : OpR X (compareOp .NotIn) (rNotInU X.K) := by
  intro pins s σ H x y v u Q I rx ry h
  obtain ⟨d, ds, hd, he, sd, se, q⟩ := h
  obtain ⟨xs, r1⟩ := Dp.reads I d x v hd rx
  obtain ⟨ys, r2⟩ := Dp.reads I (.tuple ds) y u he ry
  refine SeqAt.notIn_tuple_reads r2 r1 (SeqAt.canLay_of_shaped se) (SeqAt.canLay_of_shaped sd) ?_ ⟨.bl _, H, I, rfl, q⟩
  have := SeqAt.depth_of_shaped sd
  omega
theorem c_in (C : At P w K mg base k N sc own X) {a b : Expr} {d : PyData} {ds : List PyData} (ha : E X T ρ a d) (hb : E X T ρ b (.tuple ds)) (sd : Lay d) (se : Lay (.tuple ds)) : EC X T ρ .In a b (ds.any fun z => PyData.eqv z d) :=
  ⟨_, op_inU C.units, fun σ H Q ok q => two ha hb ok fun x y H' z hx hy => ⟨d, ds, hx.dp (SeqAt.canLay_of_shaped sd), hy.dp (SeqAt.canLay_of_shaped se), sd, se, q H' z⟩⟩
theorem c_notIn (C : At P w K mg base k N sc own X) {a b : Expr} {d : PyData} {ds : List PyData} (ha : E X T ρ a d) (hb : E X T ρ b (.tuple ds)) (sd : Lay d) (se : Lay (.tuple ds)) : EC X T ρ .NotIn a b (!ds.any fun z => PyData.eqv z d) :=
  ⟨_, op_notInU C.units, fun σ H Q ok q => two ha hb ok fun x y H' z hx hy => ⟨d, ds, hx.dp (SeqAt.canLay_of_shaped sd), hy.dp (SeqAt.canLay_of_shaped se), sd, se, q H' z⟩⟩
/-- a <= b < c -/
theorem et_chain {a b c : Expr} {i j l : Int} (ha : E X T ρ a (.int i)) (hb : E X T ρ b (.int j)) (hc : E X T ρ c (.int l)) (hm : lastMarks [CmpOp.LtE, CmpOp.Lt] [b, c] = false := by with_unfolding_all rfl) :
    ET X T ρ (.Compare a [.LtE, .Lt] [b, c] pos) (decide (i ≤ j) && decide (j < l)) := fun σ H Q ok q =>
  to_wt (pt_chain op_le op_lt pe_we pe_we pe_we hm) (two ha hb ok fun x y H' e hx hy => ⟨i, j, hx.int_inv, hy.int_inv, decide (i ≤ j), rfl, by
    by_cases z : i ≤ j
    · rw [decide_eq_true z] at q ⊢
      exact iteT (hc σ H' _ (ok.same e) fun u H2 e2 hu => ⟨j, l, hy.int_inv, hu.int_inv, _, rfl, q H2 (e.trans e2)⟩)
    · rw [decide_eq_false z] at q ⊢
      exact iteF ⟨false, rfl, q H' e⟩⟩)

/-! ### and, or, not -/
theorem e_not {a : Expr} {x : Bool} (ha : E X T ρ a (.bool x)) : E X T ρ (.UnaryOp .Not a pos) (.bool (!x)) := fun σ H Q ok q =>
  to_we (pe_not pe_we) (ha σ H _ ok fun v H' e hv => ⟨x, hv.bool_inv, q _ H' e (.bl _)⟩)
theorem e_one {op} {a : Expr} {d : PyData} (ha : E X T ρ a d) : E X T ρ (.BoolOp op [a] pos) d := fun σ H Q ok q => to_we (pe_one pe_we) (ha σ H Q ok q)
theorem e_and {a b : Expr} {rest : List Expr} {x y : Bool} (ha : E X T ρ a (.bool x)) (hb : x = true → E X T ρ (.BoolOp .And (b :: rest) pos) (.bool y)) : E X T ρ (.BoolOp .And (a :: b :: rest) pos) (.bool (x && y)) := fun σ H Q ok q =>
  to_we (pe_and pe_we pe_we) (ha σ H _ ok fun v H' e hv => ⟨x, hv.bool_inv, by
    cases x with
    | true => exact iteT (hb rfl σ H' Q (ok.same e) fun v2 H2 e2 h2 => q v2 H2 (e.trans e2) h2)
    | false => exact iteF (q _ H' e (.bl false))⟩)
theorem e_or {a b : Expr} {rest : List Expr} {x y : Bool} (ha : E X T ρ a (.bool x)) (hb : x = false → E X T ρ (.BoolOp .Or (b :: rest) pos) (.bool y)) : E X T ρ (.BoolOp .Or (a :: b :: rest) pos) (.bool (x || y)) := fun σ H Q ok q =>
  to_we (pe_or pe_we pe_we) (ha σ H _ ok fun v H' e hv => ⟨x, hv.bool_inv, by
    cases x with
    | true => exact iteT (q _ H' e (.bl true))
    | false => exact iteF (hb rfl σ H' Q (ok.same e) fun v2 H2 e2 h2 => q v2 H2 (e.trans e2) h2)⟩)
def ww (X : Cx) (e : Expr) : TT := fun σ H Q => ∀ (whole : Sem Value) pins s, L2.Inv X pins σ H s → wpAny (model X.prog X.w) X.A (isTrue e X.env whole) (TP X pins σ Q) X.xe s
theorem pw_ww {e : Expr} : PW X e (ww X e) := ⟨fun wh pins s σ H Q I h => h wh pins s I⟩
/-- a test made of and | or -/
def EW (X : Cx) (T : Dom) (ρ : List (Option PyData)) (e : Expr) (b : Bool) : Prop := ∀ σ H Q, Ok T ρ σ H → (∀ H', Same H H' → Q b H') → ww X e σ H Q
theorem EW.et {e : Expr} {b : Bool} (h : EW X T ρ e b) : ET X T ρ e b := fun σ H Q ok q => to_wt pw_ww.pt (h σ H Q ok q)
theorem ew_and1 {a : Expr} {x : Bool} (ha : ET X T ρ a x) : EW X T ρ (.BoolOp .And [a] pos) x := fun σ H Q ok q wh pins s I => (pw_and1 pt_wt).run wh pins s σ H Q I (ha σ H Q ok q)
theorem ew_or1 {a : Expr} {x : Bool} (ha : ET X T ρ a x) : EW X T ρ (.BoolOp .Or [a] pos) x := fun σ H Q ok q wh pins s I => (pw_or1 pt_wt).run wh pins s σ H Q I (ha σ H Q ok q)
theorem ew_and {a b : Expr} {rest : List Expr} {x y : Bool} (ha : ET X T ρ a x) (hb : x = true → EW X T ρ (.BoolOp .And (b :: rest) pos) y) : EW X T ρ (.BoolOp .And (a :: b :: rest) pos) (x && y) := fun σ H Q ok q wh pins s I =>
  (pw_and pt_wt pw_ww).run wh pins s σ H Q I (ha σ H _ ok fun H' e => by
    cases x with
    | true => exact iteT (hb rfl σ H' Q (ok.same e) fun H2 e2 => q H2 (e.trans e2))
    | false => exact iteF (q H' e))
theorem ew_or {a b : Expr} {rest : List Expr} {x y : Bool} (ha : ET X T ρ a x) (hb : x = false → EW X T ρ (.BoolOp .Or (b :: rest) pos) y) : EW X T ρ (.BoolOp .Or (a :: b :: rest) pos) (x || y) := fun σ H Q ok q wh pins s I =>
  (pw_or pt_wt pw_ww).run wh pins s σ H Q I (ha σ H _ ok fun H' e => by
    cases x with
    | true => exact iteT (q H' e)
    | false => exact iteF (hb rfl σ H' Q (ok.same e) fun H2 e2 => q H2 (e.trans e2)))
theorem et_not {a : Expr} {x : Bool} (ha : ET X T ρ a x) : ET X T ρ (.UnaryOp .Not a pos) (!x) := fun σ H Q ok q => to_wt (pt_not pt_wt) (ha σ H _ ok fun H' e => q H' e)
/-- an expression that gives a bool, as a test -/
theorem et_val {e : Expr} {b : Bool} (h : E X T ρ e (.bool b)) (he : ∀ whole, isTrue e X.env whole = (do let v ← whole; standAt e.pos; holding [v] (truthy v)) := by intro _; rfl) : ET X T ρ e b := fun σ H Q ok q =>
  to_wt (pt_val pe_we he) (h σ H _ ok fun v H' e hv => ⟨b, hv.bool_inv, q H' e⟩)
theorem ET.is {e : Expr} {b c : Bool} (h : ET X T ρ e b) (z : b = c) : ET X T ρ e c := z ▸ h
theorem E.is {e : Expr} {b c : PyData} (h : E X T ρ e b) (z : b = c) : E X T ρ e c := z ▸ h
theorem e_if {c a b : Expr} {x : Bool} {d : PyData} (hc : ET X T ρ c x) (ha : x = true → E X T ρ a d) (hb : x = false → E X T ρ b d) : E X T ρ (.IfExp c a b pos) d := fun σ H Q ok q =>
  to_we (pe_ifExp pt_wt pe_we pe_we) (hc σ H _ ok fun H' e => by
    cases x with
    | true => exact iteT (ha rfl σ H' Q (ok.same e) fun v2 H2 e2 h2 => q v2 H2 (e.trans e2) h2)
    | false => exact iteF (hb rfl σ H' Q (ok.same e) fun v2 H2 e2 h2 => q v2 H2 (e.trans e2) h2))

/-! ### calls of built-ins -/
/-- the names of built-ins stand free -/
structure Bt (mg : Str → Option Value) : Prop where
  len : mg "len" = none
  max : mg "max" = none
  min : mg "min" = none
  tuple : mg "tuple" = none
  list : mg "list" = none
  all : mg "all" = none
  any : mg "any" = none
  int : mg "int" = none
  bool : mg "bool" = none
  str : mg "str" = none
  abs : mg "abs" = none
  isinstance : mg "isinstance" = none
  range : mg "range" = none
  enumerate : mg "enumerate" = none
  zip : mg "zip" = none
  sorted : mg "sorted" = none
  set : mg "set" = none
  dict : mg "dict" = none
theorem we_callB (C : At P w K mg base k N sc own X) {x : Str} {p : Pos} {id : String} {r : List V → Hp → VK → Prop} {e : Expr} {es : List Expr} {σ : L2.St} {H : Hp} {Q : VK} (hr : CallR X (.builtin id) r) (hx : globOk sc x = true) (hm : mg x = none) (hb : bootBuiltins x = some (.builtin id))
    (hp : (e :: es).all plainE = true) (h : wa X (e :: es) σ H fun vs H1 => r vs H1 Q) : we X (.Call (.Name x p) (e :: es) [] pos) σ H Q := by
  rw [List.all_cons, Bool.and_eq_true] at hp
  exact to_we (pe_callB hr (C.gl hx) (by rw [C.emg]; exact hm) hb pa_wa (globOk.ok hx).2.2 (globOk.ok hx).2.1 (star_plain hp.1) (back_plain hp.2)) h
theorem we_callTy (C : At P w K mg base k N sc own X) {x : Str} {p : Pos} {id : String} {r : List V → Hp → VK → Prop} {e : Expr} {es : List Expr} {σ : L2.St} {H : Hp} {Q : VK} (hr : CallR X (.type id) r) (hx : globOk sc x = true) (hm : mg x = none) (hb : bootBuiltins x = some (.type id))
    (hp : (e :: es).all plainE = true) (h : wa X (e :: es) σ H fun vs H1 => r vs H1 Q) : we X (.Call (.Name x p) (e :: es) [] pos) σ H Q := by
  rw [List.all_cons, Bool.and_eq_true] at hp
  exact to_we (pe_callTy hr (C.gl hx) (by rw [C.emg]; exact hm) hb pa_wa (globOk.ok hx).2.2 (globOk.ok hx).2.1 (star_plain hp.1) (back_plain hp.2)) h
/-- one argument -/
theorem one {a : Expr} {d : PyData} {σ : L2.St} {H : Hp} {Q : List V → Hp → Prop} (h : E X T ρ a d) (ok : Ok T ρ σ H) (hp : plainE a = true) (q : ∀ v H', Same H H' → Da (hid T H') v d → Q [v] H') : wa X [a] σ H Q :=
  (ea_cons h ea_nil hp) σ H Q ok fun vs H' e hv => by
    cases hv with
    | cons h1 h2 =>
      cases h2
      exact q _ H' e h1
theorem Da.seq {G : Hp} {v : V} {d : PyData} {ds : List PyData} (h : Da G v d) (hd : d = .tuple ds ∨ d = .list ds) : ∃ a vs, v = .ref a ∧ (Rd G a (.tup vs) ∨ G a = some (.lst vs)) ∧ Das G vs ds := by
  rcases hd with e | e
  · subst e
    obtain ⟨a, vs, h1, h2, h3⟩ := h.tup_inv
    exact ⟨a, vs, h1, .inl h2, h3⟩
  · subst e
    obtain ⟨a, vs, h1, h2, h3⟩ := h.lst_inv
    exact ⟨a, vs, h1, .inr h2, h3⟩
theorem e_len (C : At P w K mg base k N sc own X) (B : Bt mg) {p : Pos} {a : Expr} {d : PyData} {ds : List PyData} (ha : E X T ρ a d) (hd : d = .tuple ds ∨ d = .list ds) (hx : globOk sc "len" = true := by decide +kernel) (hp : plainE a = true := by rfl) : E X T ρ (.Call (.Name "len" p) [a] [] pos) (.int (ds.length : Int)) := fun σ H Q ok q =>
  we_callB C call_len_seq hx B.len PySem.boot_len (by rw [List.all_cons, hp]; rfl) (one ha ok hp fun v H' e hv => by
    obtain ⟨b, vs, rfl, h2, h3⟩ := hv.seq hd
    refine ⟨b, vs, rfl, h2.elim (fun z => .inr (seqT z)) (fun z => .inl (seqL z)), ?_⟩
    rw [h3.length]
    exact q _ H' e (.int _))
theorem e_tupleL (C : At P w K mg base k N sc own X) (B : Bt mg) {p : Pos} {a : Expr} {ds : List PyData} (ha : E X T ρ a (.list ds)) (hx : globOk sc "tuple" = true := by decide +kernel) (hp : plainE a = true := by rfl) : E X T ρ (.Call (.Name "tuple" p) [a] [] pos) (.tuple ds) := fun σ H Q ok q =>
  we_callTy C call_tuple_ofN hx B.tuple (by decide +kernel) (by rw [List.all_cons, hp]; rfl) (one ha ok hp fun v H' e hv => by
    obtain ⟨b, vs, rfl, h2, h3⟩ := hv.lst_inv
    exact ⟨b, vs, rfl, .inl ⟨seqL h2, newT_of (ok.1.mono e) h3 fun l u nl d => q _ _ (same_new2 e nl) d⟩⟩)
theorem e_tupleT (C : At P w K mg base k N sc own X) (B : Bt mg) {p : Pos} {a : Expr} {ds : List PyData} (ha : E X T ρ a (.tuple ds)) (hx : globOk sc "tuple" = true := by decide +kernel) (hp : plainE a = true := by rfl) : E X T ρ (.Call (.Name "tuple" p) [a] [] pos) (.tuple ds) := fun σ H Q ok q =>
  we_callTy C call_tuple_ofN hx B.tuple (by decide +kernel) (by rw [List.all_cons, hp]; rfl) (one ha ok hp fun v H' e hv => by
    have hv0 := hv
    obtain ⟨b, vs, rfl, h2, h3⟩ := hv.tup_inv
    exact ⟨b, vs, rfl, .inr ⟨seqT h2, q _ _ e hv0⟩⟩)
theorem e_listOf (C : At P w K mg base k N sc own X) (B : Bt mg) {p : Pos} {a : Expr} {d : PyData} {ds : List PyData} (ha : E X T ρ a d) (hd : d = .tuple ds ∨ d = .list ds) (hx : globOk sc "list" = true := by decide +kernel) (hp : plainE a = true := by rfl) : E X T ρ (.Call (.Name "list" p) [a] [] pos) (.list ds) := fun σ H Q ok q =>
  we_callTy C call_list_of hx B.list (by decide +kernel) (by rw [List.all_cons, hp]; rfl) (one ha ok hp fun v H' e hv => by
    obtain ⟨b, vs, rfl, h2, h3⟩ := hv.seq hd
    exact ⟨b, vs, rfl, h2.elim (fun z => .inr (seqT z)) (fun z => .inl (seqL z)), fun l nl => q _ _ (same_new2 e nl) (.lst (hid_new (ok.1.mono e) nl) (h3.mono (same_hid (same_new nl))))⟩)
theorem e_all (C : At P w K mg base k N sc own X) (B : Bt mg) {p : Pos} {a : Expr} {bs : List Bool} (ha : E X T ρ a (.list (bs.map PyData.bool))) (hx : globOk sc "all" = true := by decide +kernel) (hp : plainE a = true := by rfl) : E X T ρ (.Call (.Name "all" p) [a] [] pos) (.bool (bs.all id)) := fun σ H Q ok q =>
  we_callB C (cr_all C.calm) hx B.all (by decide +kernel) (by rw [List.all_cons, hp]; rfl) (one ha ok hp fun v H' e hv => by
    obtain ⟨b, vs, rfl, h2, h3⟩ := hv.lst_inv
    exact ⟨b, bs, rfl, by rw [← h3.bools_inv]; exact seqL h2, q _ H' e (.bl _)⟩)
theorem e_any (C : At P w K mg base k N sc own X) (B : Bt mg) {p : Pos} {a : Expr} {bs : List Bool} (ha : E X T ρ a (.list (bs.map PyData.bool))) (hx : globOk sc "any" = true := by decide +kernel) (hp : plainE a = true := by rfl) : E X T ρ (.Call (.Name "any" p) [a] [] pos) (.bool (bs.any id)) := fun σ H Q ok q =>
  we_callB C (cr_any C.calm) hx B.any (by decide +kernel) (by rw [List.all_cons, hp]; rfl) (one ha ok hp fun v H' e hv => by
    obtain ⟨b, vs, rfl, h2, h3⟩ := hv.lst_inv
    exact ⟨b, bs, rfl, by rw [← h3.bools_inv]; exact seqL h2, q _ H' e (.bl _)⟩)
theorem e_maxL (C : At P w K mg base k N sc own X) (B : Bt mg) {p : Pos} {a : Expr} {ns : List Int} {m : Int} (ha : E X T ρ a (.list (ns.map PyData.int))) (hm : m ∈ ns) (hle : ∀ y ∈ ns, y ≤ m) (hx : globOk sc "max" = true := by decide +kernel) (hp : plainE a = true := by rfl) : E X T ρ (.Call (.Name "max" p) [a] [] pos) (.int m) := fun σ H Q ok q =>
  we_callB C (cr_max C.calm) hx B.max (by decide +kernel) (by rw [List.all_cons, hp]; rfl) (one ha ok hp fun v H' e hv => by
    obtain ⟨b, vs, rfl, h2, h3⟩ := hv.lst_inv
    refine ⟨b, ns, rfl, by rw [← h3.ints_inv]; exact seqL h2, List.length_pos_of_mem hm, fun m' h4 h5 => ?_⟩
    have : m' = m := Int.le_antisymm (hle _ h4) (h5 _ hm)
    rw [this]
    exact q _ H' e (.int _))
theorem twoA {a b : Expr} {d e : PyData} {σ : L2.St} {H : Hp} {Q : List V → Hp → Prop} (h : E X T ρ a d) (h2 : E X T ρ b e) (ok : Ok T ρ σ H) (hp : plainE a = true) (hp2 : plainE b = true) (q : ∀ v u H', Same H H' → Da (hid T H') v d → Da (hid T H') u e → Q [v, u] H') : wa X [a, b] σ H Q :=
  (ea_cons h (ea_cons h2 ea_nil hp2) hp) σ H Q ok fun vs H' e hv => by
    cases hv with
    | cons h1 h2 =>
      cases h2 with
      | cons h3 h4 =>
        cases h4
        exact q _ _ H' e h1 h3
theorem e_max2 (C : At P w K mg base k N sc own X) (B : Bt mg) {p : Pos} {a b : Expr} {i j : Int} (ha : E X T ρ a (.int i)) (hb : E X T ρ b (.int j)) (hx : globOk sc "max" = true := by decide +kernel) (hp : plainE a = true := by rfl) (hp2 : plainE b = true := by rfl) : E X T ρ (.Call (.Name "max" p) [a, b] [] pos) (.int (max i j)) := fun σ H Q ok q =>
  we_callB C (call_max2 C.calm) hx B.max (by decide +kernel) (by rw [List.all_cons, List.all_cons, hp, hp2]; rfl) (twoA ha hb ok hp hp2 fun v u H' e hv hu => ⟨i, j, by rw [hv.int_inv, hu.int_inv], by
    have : (if j > i then j else i) = max i j := by split <;> omega
    rw [this]
    exact q _ H' e (.int _)⟩)
theorem e_min2 (C : At P w K mg base k N sc own X) (B : Bt mg) {p : Pos} {a b : Expr} {i j : Int} (ha : E X T ρ a (.int i)) (hb : E X T ρ b (.int j)) (hx : globOk sc "min" = true := by decide +kernel) (hp : plainE a = true := by rfl) (hp2 : plainE b = true := by rfl) : E X T ρ (.Call (.Name "min" p) [a, b] [] pos) (.int (min i j)) := fun σ H Q ok q =>
  we_callB C (call_min2 C.calm) hx B.min (by decide +kernel) (by rw [List.all_cons, List.all_cons, hp, hp2]; rfl) (twoA ha hb ok hp hp2 fun v u H' e hv hu => ⟨i, j, by rw [hv.int_inv, hu.int_inv], by
    have : (if j < i then j else i) = min i j := by split <;> omega
    rw [this]
    exact q _ H' e (.int _)⟩)
theorem e_int1 (C : At P w K mg base k N sc own X) (B : Bt mg) {p : Pos} {a : Expr} {i : Int} (ha : E X T ρ a (.int i)) (hx : globOk sc "int" = true := by decide +kernel) (hp : plainE a = true := by rfl) : E X T ρ (.Call (.Name "int" p) [a] [] pos) (.int i) := fun σ H Q ok q =>
  we_callTy C call_int1 hx B.int (by decide +kernel) (by rw [List.all_cons, hp]; rfl) (one ha ok hp fun v H' e hv => .inl ⟨i, by rw [hv.int_inv], q _ H' e (.int _)⟩)
theorem e_intB (C : At P w K mg base k N sc own X) (B : Bt mg) {p : Pos} {a : Expr} {b : Bool} (ha : E X T ρ a (.bool b)) (hx : globOk sc "int" = true := by decide +kernel) (hp : plainE a = true := by rfl) : E X T ρ (.Call (.Name "int" p) [a] [] pos) (.int (if b then 1 else 0)) := fun σ H Q ok q =>
  we_callTy C call_int1 hx B.int (by decide +kernel) (by rw [List.all_cons, hp]; rfl) (one ha ok hp fun v H' e hv => .inr ⟨b, by rw [hv.bool_inv], q _ H' e (.int _)⟩)
theorem e_abs (C : At P w K mg base k N sc own X) (B : Bt mg) {p : Pos} {a : Expr} {i : Int} (ha : E X T ρ a (.int i)) (hx : globOk sc "abs" = true := by decide +kernel) (hp : plainE a = true := by rfl) : E X T ρ (.Call (.Name "abs" p) [a] [] pos) (.int (if i < 0 then -i else i)) := fun σ H Q ok q =>
  we_callB C call_abs hx B.abs (by decide +kernel) (by rw [List.all_cons, hp]; rfl) (one ha ok hp fun v H' e hv => ⟨i, by rw [hv.int_inv], q _ H' e (.int _)⟩)

/-! ### isinstance -/
def tyName : PyData → String
  | .none => "NoneType"
  | .bool _ => "bool"
  | .int _ => "int"
  | .str _ => "str"
  | .list _ => "list"
  | .tuple _ => "tuple"
  | .dict _ => "dict"
theorem Da.ty {v : V} {d : PyData} {H : Hp} (h : Da (hid T H) v d) : TyX K H v (.type (tyName d)) := by
  cases h with
  | non => exact .base .non
  | bl b => exact .base (.bl b)
  | int i => exact .base (.int i)
  | str x => exact .base (.str x)
  | tup h _ =>
    rcases rd_mono hid_le h.rd with h | ⟨o, h⟩
    · exact .base (.tup h)
    · exact .fTuple h
  | lst h _ => exact .base (.lst (hid_le _ _ h))
  | dct h => exact .base (.dT (hid_le _ _ h))
/-- the name of a built-in class -/
theorem pe_ty (C : At P w K mg base k N sc own X) {x : Str} {n : String} (hx : globOk sc x = true) (hm : mg x = none) (hb : bootBuiltins x = some (.type n)) : PE X (.Name x pos) (tC (.ty n)) := pe_bltn (C.gl hx) (by rw [C.emg]; exact hm) hb rfl (globOk.ok hx).2.2 (globOk.ok hx).2.1
theorem e_isi (C : At P w K mg base k N sc own X) (B : Bt mg) {p p2 : Pos} {a : Expr} {d : PyData} {x : Str} {n : String} {b : Bool} (ha : E X T ρ a d) (hm : mg x = none) (hb : bootBuiltins x = some (.type n))
    (hk : kitB (tyName d) n = some b) (hx : globOk sc "isinstance" = true := by decide +kernel) (hx2 : globOk sc x = true := by decide +kernel) (hp : plainE a = true := by rfl) : E X T ρ (.Call (.Name "isinstance" p) [a, .Name x p2] [] pos) (.bool b) := fun σ H Q ok q =>
  we_callB C call_isi hx B.isinstance (by decide +kernel) (by rw [List.all_cons, hp]; rfl) (to_wa (pa_cons pe_we (pa_cons (pe_ty C hx2 hm hb) pa_nil (star_plain rfl)) (star_plain hp)) (ha σ H _ ok fun v H' e hv =>
    ⟨v, .ty n, .type (tyName d), .type n, b, rfl, .ty n, hv.ty, kit_ty hk, q _ H' e (.bl b)⟩))
theorem e_isi2 (C : At P w K mg base k N sc own X) (B : Bt mg) {p p2 p3 p4 : Pos} {a : Expr} {d : PyData} {x y : Str} {n m : String} {b c : Bool} {j : Nat} (ha : E X T ρ a d) (hm : mg x = none) (hb : bootBuiltins x = some (.type n))
    (hm3 : mg y = none) (hb3 : bootBuiltins y = some (.type m)) (hk : kitB (tyName d) n = some b) (hk2 : kitB (tyName d) m = some c) (hx : globOk sc "isinstance" = true := by decide +kernel) (hx2 : globOk sc x = true := by decide +kernel) (hx3 : globOk sc y = true := by decide +kernel) (hp : plainE a = true := by rfl) :
    E X T ρ (.Call (.Name "isinstance" p) [a, .Tuple [.Name x p2, .Name y p3] j p4] [] pos) (.bool (b || c)) := fun σ H Q ok q =>
  we_callB C call_isiT hx B.isinstance (by decide +kernel) (by rw [List.all_cons, hp]; rfl) (to_wa (pa_cons pe_we (pa_cons (pe_tup (pa_cons (pe_ty C hx2 hm hb) (pa_cons (pe_ty C hx3 hm3 hb3) pa_nil (star_plain rfl)) (star_plain rfl))) pa_nil (star_plain rfl)) (star_plain hp)) (ha σ H _ ok fun v H' e hv =>
    ⟨by show 2 ≤ sizeLine; decide, fun t nt => ⟨v, t, [.ty n, .ty m], .type (tyName d), [.type n, .type m], b || c, rfl, upd_same, .cons (.ty n) (.cons (.ty m) .nil), (hv.mono (same_hid (same_new nt))).ty, kitAny_cons (kit_ty hk) (fun e1 => kitAny_cons (kit_ty hk2) (fun e2 => by
      rw [e1, e2]
      exact kitAny_nil) (fun e2 => by rw [e1, e2]; rfl)) (fun e1 => by rw [e1]; rfl), q _ _ (same_new2 e nt) (.bl _)⟩⟩))

/-! ### calls of defs -/
/-- a def that is there, with its promise -/
structure Has (P : Program) (w : World) (K : PySem.W.Frag) (mg : Str → Option Value) (base : Heap) (k : Nat) (x : Str) (ps : List Str) (sp : Sp) : Prop where
  ex : ∃ (f : Addr) (fd : FuncData), FnOk P w K mg base CX0 k f fd ps sp ∧ mg x = some (.ref f) ∧ PySem.W.keepIn K (.ref f) = true ∧ Binds K fd ps []
theorem we_call (C : At P w K mg base k N sc own X) {j : Nat} {x : Str} {ps : List Str} {sp : Sp} {p : Pos} {e : Expr} {es : List Expr} {σ : L2.St} {H : Hp} {Q : VK} (F : Has P w K mg base j x ps sp) (hj : j ≤ k) (hx : globOk sc x = true) (hp : (e :: es).all plainE = true)
    (h : wa X (e :: es) σ H fun vs H1 => sp vs H1 Q E0) : we X (.Call (.Name x p) (e :: es) [] pos) σ H Q := by
  obtain ⟨f, fd, F, hm, hk, hb⟩ := F.ex
  rw [List.all_cons, Bool.and_eq_true] at hp
  have e1 := C.eprog
  have e2 := C.ew
  have e3 := C.eK
  have e4 := C.emg
  have e5 := C.ebase
  subst e1; subst e2; subst e3; subst e4; subst e5
  refine to_we (pe_call F (C.room.mono hj) (C.gl hx) hm hk hb .nil pass0 pa_wa (globOk.ok hx).2.1 (star_plain hp.1) (back_plain hp.2)) ?_
  show wa X (e :: es) σ H fun vs H1 => sp (vs ++ []) H1 Q E0
  have : (fun (vs : List V) H1 => sp (vs ++ []) H1 Q E0) = fun vs H1 => sp vs H1 Q E0 := by
    funext vs H1
    rw [List.append_nil]
  rw [this]
  exact h
theorem we_call0 (C : At P w K mg base k N sc own X) {j : Nat} {x : Str} {ps : List Str} {sp : Sp} {p : Pos} {σ : L2.St} {H : Hp} {Q : VK} (F : Has P w K mg base j x ps sp) (hj : j ≤ k) (hx : globOk sc x = true)
    (h : sp [] H Q E0) : we X (.Call (.Name x p) [] [] pos) σ H Q := by
  obtain ⟨f, fd, F, hm, hk, hb⟩ := F.ex
  have e1 := C.eprog
  have e2 := C.ew
  have e3 := C.eK
  have e4 := C.emg
  have e5 := C.ebase
  subst e1; subst e2; subst e3; subst e4; subst e5
  exact to_we (pe_call0 F (C.room.mono hj) (C.gl hx) hm hk hb .nil pass0 (globOk.ok hx).2.1) h
/-- the promise of a pure def: for data in the relation R it gives the datum -/
def Pu (R : List PyData → PyData → Prop) : Sp := fun vs H Q _ => ∃ (T : Dom) (ds : List PyData) (d : PyData), TOk T H ∧ Das (hid T H) vs ds ∧ R ds d ∧ ∀ v H', Same H H' → Da (hid T H') v d → Q v H'
theorem e_call (C : At P w K mg base k N sc own X) {j : Nat} {x : Str} {ps : List Str} {R : List PyData → PyData → Prop} {p : Pos} {e : Expr} {es : List Expr} {ds : List PyData} {d : PyData} (F : Has P w K mg base j x ps (Pu R)) (hj : j ≤ k)
    (ha : EA X T ρ (e :: es) ds) (hR : R ds d) (hx : globOk sc x = true := by decide +kernel) (hp : (e :: es).all plainE = true := by rfl) : E X T ρ (.Call (.Name x p) (e :: es) [] pos) d := fun σ H Q ok q =>
  we_call C F hj hx hp (ha σ H _ ok fun vs H1 e1 h1 => ⟨T, ds, d, ok.1.mono e1, h1, hR, fun v H' e' hv => q v H' (e1.trans e') hv⟩)
theorem e_call0 (C : At P w K mg base k N sc own X) {j : Nat} {x : Str} {ps : List Str} {R : List PyData → PyData → Prop} {p : Pos} {d : PyData} (F : Has P w K mg base j x ps (Pu R)) (hj : j ≤ k)
    (hR : R [] d) (hx : globOk sc x = true := by decide +kernel) : E X T ρ (.Call (.Name x p) [] [] pos) d := fun σ H Q ok q =>
  we_call0 C F hj hx ⟨T, [], d, ok.1, .nil, hR, fun v H' e' hv => q v H' e' hv⟩
end
end Sk
set_option maxHeartbeats 4000000
/-! SkD: enumerate of a tuple, as a thing that a loop walks. -/
namespace Sk
open PySem PySem.Spec PyProof.Rows L2

set_option maxHeartbeats 1000000 in
theorem meets_enum1 {v : Value} {o : Obj} {H : Heap → Prop} (B : Begins v o H) :
    Meets (Builtin.«enumerate.__new__» ⟨[.type "enumerate", v], []⟩) (fun _ R s => H s.heap ∧
      R (.ok (.ret (.ref (s.heap.push o).objs.size))) { s with heap := (s.heap.push o).push { cls := .type "enumerate", data := .fields #[.none, .bool false, .ref s.heap.objs.size, rawInt 0, .none, .none] } }) :=
  .of_wp fun prog w A R s z => by
    obtain ⟨hp, g, d, tk, os⟩ := s
    obtain ⟨h1, h⟩ := z
    have hsub := sub_enumerate
    have start : ∀ {A' : Around} {E : Value → Shared → Prop} {Q : Value → Shared → Prop}, Q (.ref hp.objs.size) ⟨hp.push o, g, d, tk, os⟩ → wpAny (model prog w) A' (pyIter v) Q E ⟨hp, g, d, tk, os⟩ :=
      fun q => B.iter prog w _ _ ⟨hp, g, d, tk, os⟩ _ h1 q
    wp_walk using start
    refine wpAny_stack_any fun st => wpAny_pure ?_
    split
    · rename_i c _ _ _ _ _
      cases (c == Value.type "enumerate") <;> (wp_walk using start; exact ⟨_, rfl, h⟩)
    · wp_walk using start
      exact ⟨_, rfl, h⟩
section
variable {prog : Program} {w : World} {A : Around} {E : Value → Shared → Prop} {s : Shared}
/-- enumerate(v): its two cells -/
theorem enum_new {v : Value} {o : Obj} {H : Heap → Prop} {Q : Value → Shared → Prop} (B : Begins v o H) (h1 : H s.heap)
    (h : ∀ h', IsEnum h' (s.heap.objs.size + 1) s.heap.objs.size 0 .none → h'.get? s.heap.objs.size = some o → (∀ b u, s.heap.get? b = some u → h'.get? b = some u) → Q (.ref (s.heap.objs.size + 1)) { s with heap := h' }) :
    wpAny (model prog w) A (call (.type "enumerate") [v]) Q E s := by
  refine callType_new F.called_enumerate (by decide) (F.typeCall_enumerate_1 _) (F.newCall_enumerate_1 _) (fun obj => F.args_object_init_2 obj _) F.entry_enumerate_new (meets_enum1 B) ⟨h1, ?_⟩
  have z : (s.heap.push o).objs.size = s.heap.objs.size + 1 := Heap.size_push ..
  show _ ∧ _
  rw [z]
  have he := Heap.get?_push_size (s.heap.push o) (o := { cls := .type "enumerate", data := .fields #[.none, .bool false, .ref s.heap.objs.size, rawInt 0, .none, .none] }) rfl
  rw [z] at he
  exact ⟨⟨_, he, rfl⟩, h _ he (Heap.get?_push_of_some _ (Heap.get?_push_size _ B.free)) fun b u x => Heap.get?_push_of_some _ (Heap.get?_push_of_some _ x)⟩
end
/-- the tuple at a, each item in a new pair with its place -/
def Iet (K : PySem.W.Frag) (a : Addr) : It :=
  ⟨fun i H => ∃ (xs : List V) (x : V), SqT K H a xs ∧ xs[i]? = some x, fun i H v H' => ∃ T x, v = .ref T ∧ H T = none ∧ H' = upd H T (.tup [.int (i : Nat), x]) ∧ ∀ xs, SqT K H a xs → xs[i]? = some x, fun i H => ∃ xs : List V, SqT K H a xs ∧ xs.length ≤ i⟩
theorem cls_ne {h : Heap} {a b : Addr} {o u : Obj} (h1 : h.get? a = some o) (h2 : h.get? b = some u) (d : o.cls ≠ u.cls) : a ≠ b := fun e => by
  rw [e, h2] at h1
  exact d (by rw [Option.some.inj h1])
theorem turn_enumT {P : Program} {w : World} {K : PySem.W.Frag} {elts : List Expr} {kk : Nat} {tpos : Pos} (a e it : Addr) :
    Turn P w K (.Tuple elts kk tpos) (Iet K a) [e, it] e (fun i h => (∃ old, IsEnum h e it ((i : Nat) : Int) old) ∧ h.IsTupleIter it a i) where
  mem := by simp
  obj := fun i h st b hb => by
    obtain ⟨⟨old, he⟩, ⟨o, ho, hc, hd⟩⟩ := st
    rcases (show b = e ∨ b = it by simpa using hb) with z | z
    · rw [z]; exact ⟨_, he, fun v q => nomatch q⟩
    · rw [z]; exact ⟨o, ho, fun v q => by rw [hd] at q; cases q⟩
  keep := fun i h h' st k => let ⟨⟨old, he⟩, hi⟩ := st; ⟨⟨old, k e (by simp) _ he⟩, hi.at fun o q => k it (by simp) o q⟩
  item := by
    intro X hP hw hK hc i pins s σ H E I hf st hg
    subst hP hw hK
    obtain ⟨⟨old, he⟩, hit⟩ := st
    obtain ⟨xs, x, hq, hx⟩ := hg
    obtain ⟨its, rv, p, hz⟩ := I.tuple hq
    obtain ⟨u, hu, ru⟩ := rv.get hx
    have hel : e < s.heap.objs.size := Heap.lt_size he
    obtain ⟨oi, hoi, hci, hdi⟩ := id hit
    have hil : it < s.heap.objs.size := Heap.lt_size hoi
    obtain ⟨oa, hoa, hca, na, hda⟩ := id p
    have nai : a ≠ it := cls_ne hoa hoi (by rw [hca, hci]; decide)
    have nei : e ≠ it := cls_ne he hoi (by rw [hci]; show Value.type "enumerate" ≠ _; decide)
    have nea : e ≠ a := cls_ne he hoa (by rw [hca]; show Value.type "enumerate" ≠ _; decide)
    have D := Draws.tuple (prog := X.prog) (w := X.w) (A := X.A.in1) (show X.A.in1.handled = none from I.ok.hd hc) it a nai its.toArray
    have hlt : i < its.toArray.size := by
      have := (List.getElem?_eq_some_iff.mp hu).1
      simpa using this
    refine wpAny_pyNext_enum_itemD D he ⟨hit, p⟩ hlt nei (by simp [nei, nea]) fun y h' tk hy ho hst hT hsz hk => ?_
    have ey : y = u := by
      have h2 : its.toArray[i]? = some u := by simpa using hu
      rw [h2] at hy
      exact (Option.some.inj hy).symm
    subst ey
    refine ⟨_, rfl, wpAny_letOwnedTupleGo_enum (s := { s with heap := h', toks := tk + 1 }) ho fun h'' he' sb => ?_⟩
    have hT2 : h''.get? s.heap.objs.size = some { cls := .type "tuple", data := .seq #[.int i tk, y] } := (sb.2 _ (Nat.ne_of_gt hel)).trans hT
    have new : ObjOk X.prog X.w (upd H s.heap.objs.size (.tup [.int (i : Nat), x])) h'' s.heap.objs.size (.tup [.int (i : Nat), x]) :=
      ⟨by show 2 ≤ sizeLine; decide, [.int i tk, y], .cons ⟨_, rfl⟩ (.cons ru .nil), ⟨_, hT2, rfl, _, rfl⟩⟩
    have I1 : L2.Inv X pins σ (upd H s.heap.objs.size (.tup [.int (i : Nat), x])) { s with heap := h'', toks := tk + 1 } :=
      I.turnedNew (ch := [e, it]) (fun b ob hb q => (sb.2 b (fun z => hb (by simp [z]))).trans (hk b ob (fun z => hb (by simp [z])) (fun z => hb (by simp [z])) q)) hf (Nat.le_refl _) new
    refine ⟨.ref s.heap.objs.size, _, I1, rfl, ⟨_, x, rfl, I.hok.fresh (Nat.le_refl _), rfl, fun ys hy => by rw [I.tuple_inj hy hq]; exact hx⟩, ⟨⟨y, ?_⟩, hst.1.at fun o q => (sb.2 it (Ne.symm nei)).trans q⟩, fun b hb => ?_⟩
    · have e1 : ((i + 1 : Nat) : Int) = (i : Int) + 1 := by omega
      rw [e1]; exact he'
    · have hb' : b < s.heap.objs.size := by
        rcases (show b = e ∨ b = it by simpa using hb) with z | z
        · rw [z]; exact hel
        · rw [z]; exact hil
      rw [upd_ne (Nat.ne_of_lt hb')]
      exact (hf b hb).1
  done := by
    intro X hP hw hK hc i pins s σ H E I hf st hg
    subst hP hw hK
    obtain ⟨⟨old, he⟩, hit⟩ := st
    obtain ⟨xs, hq, hx⟩ := hg
    obtain ⟨its, rv, p, hz⟩ := I.tuple hq
    obtain ⟨f0, f1, f2, f3, f4, f5⟩ := hf it (by simp)
    have hl := rv.length
    have hT : s.TypeIs (.ref e) "enumerate" := ⟨_, he, rfl⟩
    unfold pyNext
    refine wpAny_bind (wpAny_attempt (wpAny_callSpecial?_slot (name := Str.ofString "__next__") hT F.slot_enumerate_next
      (wpAny_call_entry F.slot_enumerate_next hT F.entry_enumerate_next ?_ (F.args_enumerate_next_1 _))))
    show wpAny _ _ (field (.ref e) 2 >>= _) _ _ _
    refine wpAny_bind (wpAny_field he rfl (x := .ref it) rfl ?_)
    refine wpAny_bind (wpAny_nextOf_tuple_end (A := X.A.in1) (show X.A.in1.handled = none from I.ok.hd hc) hit (show s.heap.IsTuple a its.toArray from p) (by simp; omega) fun h' z he' hx' => ?_)
    obtain ⟨o, ho, hcl⟩ := hx'
    refine wpAny_bind (wpAny_isInstance (T := "StopIteration") (b := true) ⟨o, ho, hcl⟩ isSubtype_stop ?_)
    exact wpAny_pure ⟨rfl, I.turned (t' := s.toks) (fun b o hb q => he' b o hb q) f0 f1 f3 f4 f5⟩
  self := fun A i s Q E st h => let ⟨⟨_, he⟩, _⟩ := st; wpAny_pyIter_enum he h
def iEnumT (K : PySem.W.Frag) (ta : TA) : TI := fun σ H R => ta σ H fun vs H1 => ∃ a xs, vs = [.ref a] ∧ SqT K H1 a xs ∧ R (Iet K a) H1
theorem pi_enumT {X : Cx} {e : Expr} {ta : TA} {p pos tpos : Pos} {elts : List Expr} {kk : Nat} (hg : Gl X "enumerate") (hm : X.mg "enumerate" = none) (ha : PA X [e] ta) (hs : starEach [e] X.env = [(false, eval e X.env)] := by rfl) :
    PI X (.Tuple elts kk tpos) (.Call (.Name "enumerate" p) [e] [] pos) (iEnumT X.K ta) := by
  refine ⟨fun pins s σ H R I h => ?_⟩
  refine Call_ (ld_blt I hg hm boot_enumerate (PyProof.Rows.callWith_type1 (thn (ha.run pos pins s σ H _ I h) fun us s1 ⟨vs, H1, I1, r1, q1⟩ => ?_) hs rfl))
  obtain ⟨a, xs, ex, hq, q⟩ := q1
  subst ex
  cases r1 with
  | cons r rr =>
    cases rr
    cases r
    obtain ⟨its, rv, p', hz⟩ := I1.tuple hq
    refine enum_new (begins_tuple a its.toArray) p' fun h' he hit hk => wpAny_pyIter_enum he ?_
    have I2 : L2.Inv X pins σ H1 { s1 with heap := h' } := I1.kept (t' := s1.toks) hk
    refine ⟨s1.heap.objs.size + 1, [s1.heap.objs.size + 1, s1.heap.objs.size], _, _, H1, rfl, I2, turn_enumT a (s1.heap.objs.size + 1) s1.heap.objs.size, ⟨⟨.none, he⟩, ⟨_, hit, rfl, rfl⟩⟩, fun b hb => ?_, q⟩
    have hle : s1.heap.objs.size ≤ b := by
      rcases (show b = s1.heap.objs.size + 1 ∨ b = s1.heap.objs.size by simpa using hb) with z | z <;> (rw [z]; omega)
    exact I1.fpOk hle (I1.hok.fresh hle)
theorem walk_enumT {K : PySem.W.Frag} {a : Addr} {xs : List V} : Walk (Iet K a) xs.length (fun H => SqT K H a xs) (YPair (fun i => some (.int (i : Nat))) (fun i => xs[i]?)) :=
  ⟨fun i _ hi q => ⟨xs, xs[i], q, by simp [hi]⟩, fun _ q => ⟨xs, q, Nat.le_refl _⟩, fun i H v H' _ q y =>
    let ⟨T, x, h1, h2, h3, h4⟩ := y
    ⟨T, .int (i : Nat), x, h1, h2, h3, rfl, h4 xs q⟩⟩
end Sk
set_option maxHeartbeats 4000000
/-! SkE: what is walked, targets, comprehensions. -/
namespace Sk
open PySem PySem.Spec PyProof.Rows L2

/-- to walk `it` is to meet the data xs, in order, whatever is hidden meanwhile -/
def IT (X : Cx) (T : Dom) (ρ : List (Option PyData)) (tg it : Expr) (xs : List PyData) : Prop :=
  ∀ σ H R, Ok T ρ σ H → (∀ H1 (J : It) (G : Hp → Prop) (Y : Nat → Hp → V → Hp → Prop), Same H H1 → Walk J xs.length G Y → (∀ (T2 : Dom) H2, Same (hid T H1) (hid T2 H2) → G H2) →
    (∀ (T2 : Dom) i H2 x H3, Same (hid T H1) (hid T2 H2) → TOk T2 H2 → Y i H2 x H3 → Same H2 H3 ∧ ∃ d, xs[i]? = some d ∧ Da (hid T2 H3) x d) → R J H1) → wi X tg it σ H R
/-- a target takes the datum d: ρ becomes ρ'; only the slots in `is` are written -/
def TG1 (X : Cx) (T : Dom) (tg : Expr) (d : PyData) (ρ ρ' : List (Option PyData)) (is : List Nat) : Prop :=
  ∀ v σ H Q, Ok T ρ σ H → Da (hid T H) v d → (∀ σ', Ok T ρ' σ' H → (∀ vs : List Nat, (∀ i ∈ is, i ∈ vs) → wipe σ' vs = wipe σ vs) → (∀ j, j ∉ is → σ'[j]? = σ[j]?) → Q σ' H) → wg X tg v σ H Q
section
variable {P : Program} {w : World} {K : PySem.W.Frag} {mg : Str → Option Value} {base : Heap} {k : Nat} {N : List Str} {sc own : Scope} {X : Cx} {T : Dom} {ρ ρ' : List (Option PyData)} {pos : Pos}

/-! ### walked things -/
theorem it_list {tg e : Expr} {ds : List PyData} (h : E X T ρ e (.list ds)) : IT X T ρ tg e ds := fun σ H R ok q =>
  to_wi (pi_list pe_we) (h σ H _ ok fun v H1 e1 hv => by
    obtain ⟨a, vs, rfl, ha, hvs⟩ := hv.lst_inv
    refine ⟨a, rfl, ⟨vs, seqL ha⟩, q H1 _ _ _ e1 (by rw [← hvs.length]; exact walk_list (xs := vs)) (fun T2 H2 s => seqL (s _ _ ha)) fun T2 i H2 x H3 s tk y => ?_⟩
    obtain ⟨e2, hx⟩ := y
    subst e2
    obtain ⟨d, h1, h2⟩ := hvs.at hx
    exact ⟨Same.refl _, d, h1, h2.mono s⟩)
theorem it_tup {tg e : Expr} {ds : List PyData} (h : E X T ρ e (.tuple ds)) : IT X T ρ tg e ds := fun σ H R ok q =>
  to_wi (pi_tup pe_we) (h σ H _ ok fun v H1 e1 hv => by
    obtain ⟨a, vs, rfl, ha, hvs⟩ := hv.tup_inv
    refine ⟨a, rfl, ⟨vs, seqT ha⟩, q H1 _ _ _ e1 (by rw [← hvs.length]; exact walk_tup (xs := vs)) (fun T2 H2 s => seqT (rd_mono s ha)) fun T2 i H2 x H3 s tk y => ?_⟩
    obtain ⟨e2, hx⟩ := y
    subst e2
    obtain ⟨d, h1, h2⟩ := hvs.at hx
    exact ⟨Same.refl _, d, h1, h2.mono s⟩)
/-- the pairs (i, d) -/
def numbered : Nat → List PyData → List PyData
  | _, [] => []
  | n, d :: ds => .tuple [.int (n : Int), d] :: numbered (n + 1) ds
theorem numbered_length : ∀ (n : Nat) (ds : List PyData), (numbered n ds).length = ds.length
  | _, [] => rfl
  | n, d :: ds => by rw [numbered, List.length_cons, List.length_cons, numbered_length (n + 1) ds]
theorem numbered_at : ∀ (n : Nat) (ds : List PyData) (i : Nat) (d : PyData), ds[i]? = some d → (numbered n ds)[i]? = some (.tuple [.int ((n + i : Nat) : Int), d])
  | _, [], i, d, h => by simp at h
  | n, e :: ds, 0, d, h => by
    simp at h
    subst h
    rfl
  | n, e :: ds, i + 1, d, h => by
    have q := numbered_at (n + 1) ds i d (by simpa using h)
    rw [numbered, List.getElem?_cons_succ, q, show n + 1 + i = n + (i + 1) by omega]
theorem da_pair {G : Hp} {p : Addr} {v u : V} {d e : PyData} (h : G p = some (.tup [v, u])) (h1 : Da G v d) (h2 : Da G u e) (hm : mustP [d, e] = false := by rfl) : Da G (.ref p) (.tuple [d, e]) := .tup (.inl ⟨hm, h⟩) (.cons h1 (.cons h2 .nil))
theorem it_enumT (C : At P w K mg base k N sc own X) (B : Bt mg) {p tpos : Pos} {elts : List Expr} {kk : Nat} {e : Expr} {ds : List PyData} (h : E X T ρ e (.tuple ds)) (hx : globOk sc "enumerate" = true := by decide +kernel) (hp : plainE e = true := by rfl) :
    IT X T ρ (.Tuple elts kk tpos) (.Call (.Name "enumerate" p) [e] [] pos) (numbered 0 ds) := fun σ H R ok q =>
  to_wi (pi_enumT (C.gl hx) (by rw [C.emg]; exact B.enumerate) pa_wa (star_plain hp)) (one h ok hp fun v H1 e1 hv => by
    obtain ⟨a, vs, rfl, ha, hvs⟩ := hv.tup_inv
    refine ⟨a, vs, rfl, seqT ha, q H1 _ _ _ e1 (by rw [numbered_length, ← hvs.length]; exact walk_enumT (xs := vs)) (fun T2 H2 s => seqT (rd_mono s ha)) fun T2 i H2 x H3 s tk y => ?_⟩
    obtain ⟨t, x1, x2, rfl, nt', rfl, y1, y2⟩ := y
    obtain ⟨d, h1, h2⟩ := hvs.at y2
    refine ⟨same_new nt', _, numbered_at 0 ds i d h1, ?_⟩
    have e3 : x1 = .int (i : Nat) := (Option.some.inj y1).symm
    rw [e3, Nat.zero_add]
    exact da_pair (hid_new tk nt') (.int _) ((h2.mono s).mono (same_hid (same_new nt'))))
theorem it_enumL (C : At P w K mg base k N sc own X) (B : Bt mg) {p tpos : Pos} {elts : List Expr} {kk : Nat} {e : Expr} {ds : List PyData} (h : E X T ρ e (.list ds)) (hx : globOk sc "enumerate" = true := by decide +kernel) (hp : plainE e = true := by rfl) :
    IT X T ρ (.Tuple elts kk tpos) (.Call (.Name "enumerate" p) [e] [] pos) (numbered 0 ds) := fun σ H R ok q =>
  to_wi (pi_enum (C.gl hx) (by rw [C.emg]; exact B.enumerate) pa_wa (star_plain hp)) (one h ok hp fun v H1 e1 hv => by
    obtain ⟨a, vs, rfl, ha, hvs⟩ := hv.lst_inv
    refine ⟨a, vs, rfl, seqL ha, q H1 _ _ _ e1 (by rw [numbered_length, ← hvs.length]; exact walk_enum (xs := vs)) (fun T2 H2 s => seqL (s _ _ ha)) fun T2 i H2 x H3 s tk y => ?_⟩
    obtain ⟨t, x1, x2, rfl, nt', rfl, y1, y2⟩ := y
    obtain ⟨d, h1, h2⟩ := hvs.at y2
    refine ⟨same_new nt', _, numbered_at 0 ds i d h1, ?_⟩
    have e3 : x1 = .int (i : Nat) := (Option.some.inj y1).symm
    rw [e3, Nat.zero_add]
    exact da_pair (hid_new tk nt') (.int _) ((h2.mono s).mono (same_hid (same_new nt'))))
/-- the pairs of two lists -/
def paired : List PyData → List PyData → List PyData
  | d :: ds, e :: es => .tuple [d, e] :: paired ds es
  | _, _ => []
theorem paired_length : ∀ (ds es : List PyData), (paired ds es).length = min ds.length es.length
  | [], es => by simp [paired]
  | d :: ds, [] => by simp [paired]
  | d :: ds, e :: es => by rw [paired, List.length_cons, List.length_cons, List.length_cons, paired_length ds es]; omega
theorem paired_at : ∀ (ds es : List PyData) (i : Nat) (d e : PyData), ds[i]? = some d → es[i]? = some e → (paired ds es)[i]? = some (.tuple [d, e])
  | [], es, i, d, e, h, _ => by simp at h
  | _ :: _, [], i, d, e, _, h => by simp at h
  | a :: ds, b :: es, 0, d, e, h, h' => by
    simp at h h'
    subst h; subst h'
    rfl
  | a :: ds, b :: es, i + 1, d, e, h, h' => by
    rw [paired, List.getElem?_cons_succ]
    exact paired_at ds es i d e (by simpa using h) (by simpa using h')
theorem it_zip (C : At P w K mg base k N sc own X) (B : Bt mg) {p tpos : Pos} {elts : List Expr} {kk : Nat} {a b : Expr} {ds es : List PyData} (h : E X T ρ a (.list ds)) (h' : E X T ρ b (.list es)) (hm : ∀ d e, d ∈ ds → mustP [d, e] = false) (hx : globOk sc "zip" = true := by decide +kernel) (hp : plainE a = true := by rfl) (hp2 : plainE b = true := by rfl) :
    IT X T ρ (.Tuple elts kk tpos) (.Call (.Name "zip" p) [a, b] [] pos) (paired ds es) := fun σ H R ok q =>
  to_wi (pi_zip (C.gl hx) (by rw [C.emg]; exact B.zip) pa_wa (star_plain hp) (back_plain (by rw [List.all_cons, hp2]; rfl))) (twoA h h' ok hp hp2 fun v u H1 e1 hv hu => by
    obtain ⟨x, vs, rfl, ha, hvs⟩ := hv.lst_inv
    obtain ⟨y, us, rfl, hb, hus⟩ := hu.lst_inv
    refine ⟨x, y, vs, us, rfl, seqL ha, seqL hb, q H1 _ _ _ e1 (walk_zip (xs := vs) (ys := us) (by rw [paired_length, hvs.length, hus.length])) (fun T2 H2 s => ⟨seqL (s _ _ ha), seqL (s _ _ hb)⟩) fun T2 i H2 z H3 s tk yy => ?_⟩
    obtain ⟨t, x1, x2, rfl, nt', rfl, y1, y2⟩ := yy
    obtain ⟨d, h1, h2⟩ := hvs.at y1
    obtain ⟨e, h3, h4⟩ := hus.at y2
    exact ⟨same_new nt', _, paired_at ds es i d e h1 h3, da_pair (hid_new tk nt') ((h2.mono s).mono (same_hid (same_new nt'))) ((h4.mono s).mono (same_hid (same_new nt'))) (hm d e (List.mem_of_getElem? h1))⟩)
/-- 0, 1, .. below n -/
def upTo (n : Nat) : List PyData := (List.range n).map fun (i : Nat) => PyData.int (Int.ofNat i)
theorem upTo_length (n : Nat) : (upTo n).length = n := by simp [upTo]
theorem upTo_at {n i : Nat} (h : i < n) : (upTo n)[i]? = some (.int (i : Int)) := by
  unfold upTo
  rw [List.getElem?_map, List.getElem?_range h] <;> rfl
theorem it_range (C : At P w K mg base k N sc own X) (B : Bt mg) {tg : Expr} {p : Pos} {a : Expr} {n : Nat} (h : E X T ρ a (.int (n : Int))) (hn : n ≤ 1000000) (hx : globOk sc "range" = true := by decide +kernel) (hp : plainE a = true := by rfl) : IT X T ρ tg (.Call (.Name "range" p) [a] [] pos) (upTo n) := fun σ H R ok q =>
  to_wi (pi_range1 (C.gl hx) (by rw [C.emg]; exact B.range) pa_wa (star_plain hp)) (one h ok hp fun v H1 e1 hv => by
    refine ⟨(n : Int), by rw [hv.int_inv], by omega, by omega, ?_⟩
    rw [Int.toNat_natCast]
    refine q H1 _ _ (fun i H2 x H3 => i < n ∧ H3 = H2 ∧ x = .int (i : Int)) e1 ?_ (fun _ _ _ => True.intro) fun T2 i H2 x H3 s tk y => ?_
    · rw [upTo_length]
      exact ⟨fun _ _ hi _ => hi, fun _ _ => Nat.le_refl _, fun i H2 x H3 hi _ y => ⟨hi, y.1, by rw [y.2, Int.zero_add]⟩⟩
    · obtain ⟨y0, rfl, rfl⟩ := y
      exact ⟨Same.refl _, _, upTo_at y0, .int _⟩)

/-! ### targets -/
def storeOk (N : List Str) (sc own : Scope) (i : Nat) (x : Str) : Bool :=
  decide (N[i]? = some x) && (match sc.names.lookup x with | some .local => true | some .cell => (match own.names.lookup x with | some .cell => true | _ => false) | _ => false)
theorem At.store (C : At P w K mg base k N sc own X) {i : Nat} {x : Str} (h : storeOk N sc own i x = true) : X.N.Nodup ∧ X.N[i]? = some x ∧ L2.Loc X.env.scope x ∧ (X.fn x = true ∨ X.env.scope.names.lookup x = some .local) := by
  unfold storeOk at h
  simp only [Bool.and_eq_true, decide_eq_true_eq] at h
  obtain ⟨h1, h2⟩ := h
  refine ⟨by rw [C.eN]; exact C.nd, by rw [C.eN]; exact h1, ?_⟩
  unfold L2.Loc
  rw [C.esc]
  split at h2
  · rename_i e
    exact ⟨.inl e, .inr e⟩
  · rename_i e
    split at h2
    · rename_i e2
      exact ⟨.inr e, .inl (C.fn x e2)⟩
    · cases h2
  · cases h2
theorem wipe_set {σ : L2.St} {i : Nat} {v : Option V} : ∀ {vs : List Nat}, i ∈ vs → wipe (σ.set i v) vs = wipe σ vs
  | [], h => by simp at h
  | j :: vs, h => by
    unfold wipe
    by_cases z : i ∈ vs
    · rw [wipe_set z]
    · have e : i = j := by
        rcases List.mem_cons.mp h with h | h
        · exact h
        · exact absurd h z
      subst e
      have key : ∀ (vs : List Nat) (τ : L2.St), (wipe (τ.set i v) vs).set i none = (wipe τ vs).set i none := by
        intro vs
        induction vs with
        | nil => intro τ; show (τ.set i v).set i none = τ.set i none; rw [List.set_set]
        | cons m vs ih =>
          intro τ
          show ((wipe (τ.set i v) vs).set m none).set i none = ((wipe τ vs).set m none).set i none
          by_cases hm : m = i
          · subst hm
            rw [List.set_set, List.set_set]
            exact ih τ
          · rw [List.set_comm _ _ hm, ih τ, List.set_comm _ _ (Ne.symm hm)]
      exact key vs σ
theorem tg_name (C : At P w K mg base k N sc own X) {x : Str} (i : Nat) {d : PyData} (h : storeOk N sc own i x = true := by decide +kernel) : TG1 X T (.Name x pos) d ρ (ρ.set i (some d)) [i] := fun v σ H Q ok hv q => by
  obtain ⟨h1, h2, h3, h4⟩ := C.store h
  refine to_wg (pg_name h1 h2 h3 h4) (q _ (ok.set hv) (fun vs hs => wipe_set (hs i (List.mem_singleton_self i))) fun j hj => ?_)
  rw [List.getElem?_set_ne (fun e => hj (by rw [e]; exact List.mem_singleton_self j))]
/-- several targets in order -/
def TGs1 (X : Cx) (T : Dom) (tgs : List Expr) (ds : List PyData) (ρ ρ' : List (Option PyData)) (is : List Nat) : Prop :=
  ∃ t : TGs, PGs X tgs t ∧ ∀ vs σ H Q, Ok T ρ σ H → Das (hid T H) vs ds → (∀ σ', Ok T ρ' σ' H → (∀ ws : List Nat, (∀ i ∈ is, i ∈ ws) → wipe σ' ws = wipe σ ws) → (∀ j, j ∉ is → σ'[j]? = σ[j]?) → Q σ' H) → t vs σ H Q
theorem tgs_nil : TGs1 X T [] [] ρ ρ [] := ⟨_, pgs_nil, fun vs σ H Q ok h q => by
  cases h
  exact ⟨rfl, q σ ok (fun _ _ => rfl) fun _ _ => rfl⟩⟩
theorem tgs_cons {e : Expr} {es : List Expr} {d : PyData} {ds : List PyData} {ρ1 : List (Option PyData)} {is js : List Nat} (h : TG1 X T e d ρ ρ1 is) (hs : TGs1 X T es ds ρ1 ρ' js)
    (ha : (assignEach (e :: es) X.env).map (·.2) = assign e X.env :: (assignEach es X.env).map (·.2) := by rfl) : TGs1 X T (e :: es) (d :: ds) ρ ρ' (is ++ js) := by
  obtain ⟨t, pt, ht⟩ := hs
  refine ⟨_, pgs_cons pg_wg pt ha, fun vs σ H Q ok hv q => ?_⟩
  cases hv with
  | cons h1 h2 =>
    refine ⟨_, _, rfl, h _ σ H _ ok h1 fun σ1 ok1 w1 o1 => ht _ σ1 H Q ok1 h2 fun σ2 ok2 w2 o2 => q σ2 ok2 (fun ws hw => ?_) fun j hj => ?_⟩
    · rw [w2 ws fun i hi => hw i (List.mem_append_right _ hi), w1 ws fun i hi => hw i (List.mem_append_left _ hi)]
    · rw [o2 j fun z => hj (List.mem_append_right _ z), o1 j fun z => hj (List.mem_append_left _ z)]
theorem tg_tup (C : At P w K mg base k N sc own X) {es : List Expr} {j : Nat} {ds : List PyData} {is : List Nat} (h : TGs1 X T es ds ρ ρ' is) (hn : (assignEach es X.env).length = ds.length := by rfl) (hst : (assignEach es X.env).findIdx? (·.1) = none := by rfl) :
    TG1 X T (.Tuple es j pos) (.tuple ds) ρ ρ' is := fun v σ H Q ok hv q => by
  obtain ⟨t, pt, ht⟩ := h
  obtain ⟨a, vs, rfl, ha, hvs⟩ := hv.tup_inv
  exact to_wg (pg_tup C.calm pt hn hst) ⟨a, vs, rfl, seqT ha, hvs.length, ht vs σ H Q ok hvs q⟩

/-! ### list comprehensions -/
/-- the own slots of a block forgotten -/
def wipeD (ρ : List (Option PyData)) : List Nat → List (Option PyData)
  | [] => ρ
  | v :: vs => (wipeD ρ vs).set v none
theorem Ok.wipe {σ : L2.St} {H : Hp} (ok : Ok T ρ σ H) : ∀ vs : List Nat, Ok T (wipeD ρ vs) (L2.wipe σ vs) H
  | [] => ok
  | v :: vs => (Ok.wipe ok vs).put v none
theorem blk_at (C : At P w K mg base k N sc own X) {s : Shared} {H : Hp} {scope : Scope} {cl : List (Str × Addr)} {A : Addr} {fp : List Addr} (hk : scope.kind = .function) :
    At P w K mg base k N (relS scope sc) scope (X.blk s H scope (compEnvC scope cl A X.env) fp) where
  eprog := C.eprog
  ew := C.ew
  eK := C.eK
  emg := C.emg
  ebase := C.ebase
  eN := C.eN
  esc := by
    show relS scope X.env.scope = _
    rw [C.esc]
  calm := C.calm
  room := C.room
  nd := C.nd
  fn := fun x h => by
    show (scope.names.lookup x == some .cell) = true
    rw [h] <;> rfl
  xe := rfl
  kind := hk
/-- a clause's tests -/
def ETs (X : Cx) (T : Dom) (ρ : List (Option PyData)) (ifs : List Expr) (b : Bool) : Prop := ∀ σ H Q, Ok T ρ σ H → (∀ H', Same H H' → Q b H') → wts X ifs σ H Q
theorem ets_nil : ETs X T ρ [] true := fun σ H Q ok q => to_wts pts_nil (q H (Same.refl H))
theorem ets_one {c : Expr} {b : Bool} (h : ET X T ρ c b) : ETs X T ρ [c] b := fun σ H Q ok q => to_wts (pts_one pt_wt) (h σ H Q ok q)

theorem take_snoc {α : Type} {l : List α} {i : Nat} {x : α} (h : l[i]? = some x) : l.take (i + 1) = l.take i ++ [x] := by
  rw [List.take_add_one, h] <;> rfl
/-- what a comprehension has made of some items -/
def made {α : Type} (b : α → Bool) (f : α → PyData) (ys : List α) : List PyData := (ys.filter b).map f
theorem made_yes {α : Type} {b : α → Bool} {f : α → PyData} {ys : List α} {y : α} (h : b y = true) : made b f (ys ++ [y]) = made b f ys ++ [f y] := by
  unfold made
  rw [List.filter_append, List.filter_cons, if_pos h, List.map_append] <;> rfl
theorem made_no {α : Type} {b : α → Bool} {f : α → PyData} {ys : List α} {y : α} (h : b y = false) : made b f (ys ++ [y]) = made b f ys := by
  unfold made
  rw [List.filter_append, List.filter_cons, if_neg (by rw [h]; decide), List.filter_nil, List.append_nil]
theorem made_len {α : Type} (b : α → Bool) (f : α → PyData) (ys : List α) : (made b f ys).length ≤ ys.length := by
  unfold made
  rw [List.length_map]
  exact List.length_filter_le _ _
/-- T and one more -/
def With (T : Dom) (p : Addr) : Dom := fun a => T a ∨ a = p
theorem hid_with {H H' : Hp} {p : Addr} (e : Same H H') (h : H p = none) : Same (hid T H) (hid (With T p) H') := fun a o z => by
  obtain ⟨t, z⟩ := hid_some z
  rw [hid_no (fun q => q.elim t (ne_of_none z h))]
  exact e a o z
theorem Ok.with {σ : L2.St} {H H' : Hp} {p : Addr} {o : HO} (ok : Ok T ρ σ H) (e : Same H H') (h : H p = none) (hp : H' p = some o) (ho : tupO o = false := by rfl) : Ok (With T p) ρ σ H' := by
  refine ⟨fun a t => ?_, ok.2.mono (hid_with e h)⟩
  rcases t with t | t
  · exact ok.1.mono e a t
  · subst t
    exact ⟨o, hp, ho⟩
/-- a change of what is hidden -/
theorem Ok.upd {σ : L2.St} {H : Hp} {p : Addr} {o : HO} (ok : Ok T ρ σ H) (t : T p) (ho : tupO o = false := by rfl) : Ok T ρ σ (upd H p o) := ⟨tok_upd ok.1 ho, ok.2.mono (sameT_upd t).hid⟩
theorem hid_upd {H : Hp} {p : Addr} {o : HO} (t : T p) : Same (hid T H) (hid T (upd H p o)) := (sameT_upd t).hid

abbrev gB (X : Cx) (scope : Scope) (tg : Expr) : TG := fun v σ H Q => ∀ (s : Shared) (H' : Hp) (C' : Addr) (cl : List (Str × Addr)) (fp : List Addr), wg (X.blk s H' scope (compEnvC scope cl C' X.env) fp) tg v σ H Q
abbrev tB (X : Cx) (scope : Scope) (ifs : List Expr) : TT := fun σ H Q => ∀ (s : Shared) (H' : Hp) (C' : Addr) (cl : List (Str × Addr)) (fp : List Addr), wts (X.blk s H' scope (compEnvC scope cl C' X.env) fp) ifs σ H Q
abbrev eB (X : Cx) (scope : Scope) (elt : Expr) : TE := fun σ H Q => ∀ (s : Shared) (H' : Hp) (C' : Addr) (cl : List (Str × Addr)) (fp : List Addr), we (X.blk s H' scope (compEnvC scope cl C' X.env) fp) elt σ H Q
/-- a clause: for y among ys the target, the tests, the element -/
def Clause (P : Program) (w : World) (K : PySem.W.Frag) (mg : Str → Option Value) (base : Heap) (k : Nat) (N : List Str) (sc : Scope) (ρ : List (Option PyData)) {α : Type} (elt tg : Expr) (ifs : List Expr) (scope : Scope) (vs : List Nat) (ys : List α) (en : α → PyData) (b : α → Bool) (f : α → PyData) : Prop :=
  ∀ y ∈ ys, ∃ ρ' is, (∀ i ∈ is, i ∈ vs) ∧ ∀ (X' : Cx) (T' : Dom), At P w K mg base k N (relS scope sc) scope X' → TG1 X' T' tg (en y) (wipeD ρ vs) ρ' is ∧ ETs X' T' ρ' ifs (b y) ∧ (b y = true → E X' T' ρ' elt (f y))
theorem lc_go (C : At P w K mg base k N sc own X) {α : Type} {elt tg iter : Expr} {ifs : List Expr} {scope : Scope} {vs : List Nat} {ys : List α} {en : α → PyData} {b : α → Bool} {f : α → PyData} {σ : L2.St} {H : Hp} {Q : VK} (ok : Ok T ρ σ H)
    (hi : IT X T ρ tg iter (ys.map en)) (hk : scope.kind = .function) (turn : Clause P w K mg base k N sc ρ elt tg ifs scope vs ys en b f) (hl : ys.length ≤ 100000)
    (q : ∀ v H', Same H H' → Da (hid T H') v (.list (made b f ys)) → Q v H') : tLc (wi X tg iter) (gB X scope tg) (tB X scope ifs) (eB X scope elt) vs σ H Q := by
  refine hi σ H _ ok fun H1 J G Y e1 W hG hY D nD => ?_
  rw [List.length_map] at W
  have ok1 := ok.same e1
  refine lc_it W (fun i H2 => Same H1 H2 ∧ ∃ us, H2 D = some (.lst us) ∧ Das (hid (With T D) H2) us (made b f (ys.take i))) ⟨same_new nD, [], upd_same, .nil⟩ (fun i H2 _ p => hG (With T D) H2 (hid_with p.1 nD)) ?_ ?_
  · intro i x H2 H3 hlt p y
    obtain ⟨p1, us, p2, p3⟩ := p
    have okw := ok1.with p1 nD p2
    obtain ⟨e3, d, hd, dx⟩ := hY (With T D) i H2 x H3 (hid_with p1 nD) okw.1 y
    rw [List.getElem?_map, List.getElem?_eq_getElem hlt] at hd
    have hd' : en ys[i] = d := Option.some.inj hd
    subst hd'
    obtain ⟨ρ', is, his, tr⟩ := turn ys[i] (List.getElem_mem hlt)
    have ok3 := (okw.same e3).wipe vs
    have htk : ys.take (i + 1) = ys.take i ++ [ys[i]] := take_snoc (List.getElem?_eq_getElem hlt)
    have hml := made_len b f (ys.take i)
    rw [List.length_take] at hml
    intro s H' C' cl fp
    refine (tr _ (With T D) (blk_at C hk)).1 x _ H3 _ ok3 dx fun σ' ok4 w4 o4 => ⟨?_, ?_⟩
    · rw [w4 vs his]
      have idem : ∀ (vs ws : List Nat) (τ : L2.St), (∀ i ∈ ws, i ∈ vs) → L2.wipe (L2.wipe τ ws) vs = L2.wipe τ vs := by
        intro vs ws
        induction ws with
        | nil => intro τ _; rfl
        | cons m ws ih =>
          intro τ hm
          show L2.wipe ((L2.wipe τ ws).set m none) vs = _
          rw [wipe_set (hm m List.mem_cons_self), ih τ fun i hi => hm i (List.mem_cons_of_mem _ hi)]
      exact idem vs vs σ fun _ h => h
    · intro s H' C' cl fp
      refine (tr _ (With T D) (blk_at C hk)).2.1 σ' H3 _ ok4 fun H4 e4 => ?_
      cases hb : b ys[i] with
      | true =>
        refine iteT fun s H' C' cl fp => ?_
        refine (tr _ (With T D) (blk_at C hk)).2.2 hb σ' H4 _ (ok4.same e4) fun z H5 e5 hz => ?_
        have e6 := (e3.trans e4).trans e5
        refine ⟨us, e6 D _ p2, ?_, fun a o ha => by rw [upd_ne (ne_of_none ha nD)]; exact (p1.trans e6) a o ha, us ++ [z], upd_same, ?_⟩
        · rw [p3.length]
          exact Nat.lt_of_le_of_lt (Nat.le_trans hml (Nat.le_trans (Nat.min_le_right _ _) hl)) (by decide)
        · rw [htk, made_yes hb]
          exact ((p3.mono (same_hid e6)).append (.one hz)).mono (hid_upd (.inr rfl))
      | false =>
        refine iteF ⟨(p1.trans e3).trans e4, us, (e3.trans e4) D _ p2, ?_⟩
        rw [htk, made_no hb]
        exact p3.mono (same_hid (e3.trans e4))
  · intro H2 p
    obtain ⟨p1, us, p2, p3⟩ := p
    rw [List.take_length] at p3
    refine q _ H2 (e1.trans p1) (.lst ?_ (p3.mono (hid_hid fun a t => .inl t)))
    rw [hid_no (ok1.1.not nD)]
    exact p2
end
end Sk
set_option maxHeartbeats 4000000
/-! SkF: comprehensions as expressions and statements, blocks, loops, defs. -/
namespace Sk
open PySem PySem.Spec PyProof.Rows L2
section
variable {P : Program} {w : World} {K : PySem.W.Frag} {mg : Str → Option Value} {base : Heap} {k : Nat} {N : List Str} {sc own : Scope} {X : Cx} {T : Dom} {ρ ρ' : List (Option PyData)} {pos : Pos}

theorem e_lc (C : At P w K mg base k N sc own X) {α : Type} {elt tg iter : Expr} {ifs : List Expr} {scope : Scope} (ow : List (Str × Nat)) {ys : List α} (en : α → PyData) (b : α → Bool) (f : α → PyData)
    (hi : IT X T ρ tg iter (ys.map en)) (turn : Clause P w K mg base k N sc ρ elt tg ifs scope (ow.map (·.2)) ys en b f) (hl : ys.length ≤ 100000) (hb : blkC N sc scope ow = true := by decide +kernel) (hk : scope.kind = .function := by rfl)
    (hs : ∀ x, foldedSetIterable iter X.env x = pure x := by intro _; rfl) : E X T ρ (.ListComp elt [⟨tg, iter, ifs, 0⟩] scope pos) (.list (made b f ys)) := fun σ H Q ok q =>
  to_we (pe_lc (wi := wi X tg iter) (g := gB X scope tg) (tt := tB X scope ifs) (te := eB X scope elt) C.calm (by rw [C.eN]; exact C.nd) pi_wi (by rw [C.eN, C.esc]; exact blkOk_by hb)
    (fun s H' C' cl fp => ⟨fun pins s1 σ H v u Q I r h => h s H' C' cl fp pins s1 u I r⟩) (fun s H' C' cl fp => ⟨fun pins s1 σ H Q I h => h s H' C' cl fp pins s1 I⟩)
    (fun s H' C' cl fp => ⟨fun pins s1 σ H Q I h => h s H' C' cl fp pins s1 I⟩) hs) (lc_go C ok hi hk turn hl q)
theorem made_all {α : Type} (f : α → PyData) (ys : List α) : made (fun _ => true) f ys = ys.map f := by
  unfold made
  congr 1
  exact List.filter_eq_self.mpr fun _ _ => rfl

/-! ### two clauses -/
abbrev iB (X : Cx) (scope : Scope) (tg it : Expr) : TI := fun σ H R => ∀ (s : Shared) (H' : Hp) (C' : Addr) (cl : List (Str × Addr)) (fp : List Addr), wi (X.blk s H' scope (compEnvC scope cl C' X.env) fp) tg it σ H R
def Clause2 (P : Program) (w : World) (K : PySem.W.Frag) (mg : Str → Option Value) (base : Heap) (k : Nat) (N : List Str) (sc : Scope) (ρ : List (Option PyData)) {α β : Type} (elt tg tg1 it1 : Expr) (scope : Scope) (vs vs1 : List Nat) (ys : List α) (en : α → PyData) (zs : α → List β) (en1 : α → β → PyData) (f : α → β → PyData) : Prop :=
  ∀ y ∈ ys, ∃ ρ' is, (∀ i ∈ is, i ∈ vs) ∧ (∀ (X' : Cx) (T' : Dom), At P w K mg base k N (relS scope sc) scope X' → TG1 X' T' tg (en y) (wipeD ρ vs) ρ' is ∧ IT X' T' ρ' tg1 it1 ((zs y).map (en1 y))) ∧
    ∀ z ∈ zs y, ∃ ρ2 js, (∀ i ∈ js, i ∈ vs1) ∧ ∀ (X' : Cx) (T' : Dom), At P w K mg base k N (relS scope sc) scope X' → TG1 X' T' tg1 (en1 y z) (wipeD ρ' vs1) ρ2 js ∧ E X' T' ρ2 elt (f y z)
theorem wipe_idem : ∀ (vs ws : List Nat) (τ : L2.St), (∀ i ∈ ws, i ∈ vs) → L2.wipe (L2.wipe τ ws) vs = L2.wipe τ vs := by
  intro vs ws
  induction ws with
  | nil => intro τ _; rfl
  | cons m ws ih =>
    intro τ hm
    show L2.wipe ((L2.wipe τ ws).set m none) vs = _
    rw [wipe_set (hm m List.mem_cons_self), ih τ fun i hi => hm i (List.mem_cons_of_mem _ hi)]
theorem flat_take {α β : Type} (g : α → List β) {l : List α} {i : Nat} (hi : i < l.length) : (l.take (i + 1)).flatMap g = (l.take i).flatMap g ++ g l[i] := by
  rw [take_snoc (List.getElem?_eq_getElem hi), List.flatMap_append]
  simp
theorem flat_le {α β : Type} (g : α → List β) (l : List α) (i : Nat) : ((l.take i).flatMap g).length ≤ (l.flatMap g).length := by
  have e : l.flatMap g = (l.take i).flatMap g ++ (l.drop i).flatMap g := by rw [← List.flatMap_append, List.take_append_drop]
  rw [e, List.length_append]
  omega
theorem yes_go {σ : L2.St} {H : Hp} {A B : Hp → Prop} (h : A H) : tYes σ H fun b H3 => if b = true then A H3 else B H3 := by
  show (if true = true then A H else B H)
  exact iteT h
theorem lc2_go (C : At P w K mg base k N sc own X) {α β : Type} {elt tg iter tg1 it1 : Expr} {scope : Scope} {vs vs1 : List Nat} {ys : List α} {en : α → PyData} {zs : α → List β} {en1 : α → β → PyData} {f : α → β → PyData} {σ : L2.St} {H : Hp} {Q : VK} (ok : Ok T ρ σ H)
    (hi : IT X T ρ tg iter (ys.map en)) (hk : scope.kind = .function) (turn : Clause2 P w K mg base k N sc ρ elt tg tg1 it1 scope vs vs1 ys en zs en1 f) (hl : (ys.flatMap fun y => (zs y).map (f y)).length ≤ 100000)
    (q : ∀ v H', Same H H' → Da (hid T H') v (.list (ys.flatMap fun y => (zs y).map (f y))) → Q v H') : tLc2 (wi X tg iter) (gB X scope tg) tYes (iB X scope tg1 it1) (gB X scope tg1) tYes (eB X scope elt) vs vs1 σ H Q := by
  refine hi σ H _ ok fun H1 J G Y e1 W hG hY D nD => ?_
  rw [List.length_map] at W
  have ok1 := ok.same e1
  refine ⟨fun i m H2 => m = ys.length - i ∧ i ≤ ys.length ∧ Same H1 H2 ∧ ∃ us, H2 D = some (.lst us) ∧ Das (hid (With T D) H2) us ((ys.take i).flatMap fun y => (zs y).map (f y)), ⟨ys.length, by simp, Nat.zero_le _, same_new nD, [], upd_same, by simp; exact .nil⟩, ?_⟩
  rintro i m H2 ⟨rfl, hin, p1, us, p2, p3⟩
  have okw := ok1.with p1 nD p2
  by_cases hlt : i < ys.length
  · refine .inr ⟨W.goes i H2 hlt (hG (With T D) H2 (hid_with p1 nD)), fun H' => Same H1 H' ∧ ∃ us, H' D = some (.lst us) ∧ Das (hid (With T D) H') us ((ys.take (i + 1)).flatMap fun y => (zs y).map (f y)), fun H' h => ⟨ys.length - (i + 1), by omega, rfl, hlt, h⟩, fun x H3 y => ?_⟩
    obtain ⟨e3, d, hd, dx⟩ := hY (With T D) i H2 x H3 (hid_with p1 nD) okw.1 (W.yields i H2 x H3 hlt (hG (With T D) H2 (hid_with p1 nD)) y)
    rw [List.getElem?_map, List.getElem?_eq_getElem hlt] at hd
    have hd' : en ys[i] = d := Option.some.inj hd
    subst hd'
    obtain ⟨ρ', is, his, tr, tr2⟩ := turn ys[i] (List.getElem_mem hlt)
    have ok3 := (okw.same e3).wipe vs
    intro s H' C' cl fp
    refine (tr _ (With T D) (blk_at C hk)).1 x _ H3 _ ok3 dx fun σ' ok4 w4 o4 => ⟨?_, ?_⟩
    · rw [w4 vs his]
      exact wipe_idem vs vs σ fun _ h => h
    · refine yes_go fun s H' C' cl fp => (tr _ (With T D) (blk_at C hk)).2 σ' H3 _ ok4 fun H4 J1 G1 Y1 e4 W1 hG1 hY1 => ?_
      rw [List.length_map] at W1
      -- the inner loop
      refine ⟨fun j m H5 => m = (zs ys[i]).length - j ∧ j ≤ (zs ys[i]).length ∧ Same H4 H5 ∧ False ∨ (m = (zs ys[i]).length - j ∧ j ≤ (zs ys[i]).length ∧ (∀ a o, a ≠ D → H4 a = some o → H5 a = some o) ∧ ∃ us, H5 D = some (.lst us) ∧ Das (hid (With T D) H5) us (((ys.take i).flatMap fun y => (zs y).map (f y)) ++ ((zs ys[i]).take j).map (f ys[i]))), ⟨(zs ys[i]).length, .inr ⟨by simp, Nat.zero_le _, fun a o _ h => h, us, e4 D _ (e3 D _ p2), ?_⟩⟩, ?_⟩
      · rw [List.take_zero, List.map_nil, List.append_nil]
        exact p3.mono (same_hid (e3.trans e4))
      · intro j m H5 hW
        rcases hW with ⟨_, _, _, z⟩ | ⟨rfl, hjn, r1, us2, r2, r3⟩
        · exact z.elim
        have st : Same (hid (With T D) H4) (hid (With T D) H5) := fun a o h => by
          obtain ⟨nt, h⟩ := hid_some h
          rw [hid_no nt]
          exact r1 a o (fun z => nt (.inr z)) h
        have ok5 : Ok (With T D) ρ' σ' H5 := by
          refine ⟨fun a t => ?_, (ok4.same e4).2.mono st⟩
          by_cases z : a = D
          · rw [z]; exact ⟨_, r2, rfl⟩
          · obtain ⟨u, h1, h2⟩ := (ok4.same e4).1 a t
            exact ⟨u, r1 a u z h1, h2⟩
        have back : Same H1 H5 := fun a o h => r1 a o (ne_of_none h nD) ((p1.trans (e3.trans e4)) a o h)
        by_cases hj : j < (zs ys[i]).length
        · refine .inr ⟨W1.goes j H5 hj (hG1 (With T D) H5 st), fun H6 => (∀ a o, a ≠ D → H4 a = some o → H6 a = some o) ∧ ∃ us, H6 D = some (.lst us) ∧ Das (hid (With T D) H6) us (((ys.take i).flatMap fun y => (zs y).map (f y)) ++ ((zs ys[i]).take (j + 1)).map (f ys[i])), fun H6 h => ⟨(zs ys[i]).length - (j + 1), by omega, .inr ⟨rfl, hj, h⟩⟩, fun x2 H6 y2 => ?_⟩
          obtain ⟨e6, d2, hd2, dx2⟩ := hY1 (With T D) j H5 x2 H6 st ok5.1 (W1.yields j H5 x2 H6 hj (hG1 (With T D) H5 st) y2)
          rw [List.getElem?_map, List.getElem?_eq_getElem hj] at hd2
          have hd2' : en1 ys[i] (zs ys[i])[j] = d2 := Option.some.inj hd2
          subst hd2'
          obtain ⟨ρ2, js, hjs, tr3⟩ := tr2 (zs ys[i])[j] (List.getElem_mem hj)
          intro s H' C' cl fp
          refine (tr3 _ (With T D) (blk_at C hk)).1 x2 _ H6 _ ((ok5.same e6).wipe vs1) dx2 fun σ7 ok7 w7 o7 => ⟨?_, ?_⟩
          · rw [w7 vs1 hjs]
            exact wipe_idem vs1 vs1 σ' fun _ h => h
          · refine yes_go fun s H' C' cl fp => (tr3 _ (With T D) (blk_at C hk)).2 σ7 H6 _ ok7 fun z H7 e7 hz => ?_
            have e8 := e6.trans e7
            refine ⟨us2, e8 D _ r2, ?_, fun a o na h => by rw [upd_ne na]; exact e8 a o (r1 a o na h), us2 ++ [z], upd_same, ?_⟩
            · rw [r3.length]
              have h1 := flat_le (fun y => (zs y).map (f y)) ys (i + 1)
              rw [flat_take _ hlt, List.length_append, List.length_map] at h1
              rw [List.length_append, List.length_map, List.length_take]
              exact Nat.lt_of_le_of_lt (show _ ≤ 100000 by omega) (by decide)
            · rw [take_snoc (List.getElem?_eq_getElem hj), List.map_append, ← List.append_assoc]
              exact ((r3.mono (same_hid e8)).append (.one hz)).mono (hid_upd (.inr rfl))
        · have ej : j = (zs ys[i]).length := by omega
          subst ej
          refine .inl ⟨W1.stops H5 (hG1 (With T D) H5 st), back, us2, r2, ?_⟩
          rw [List.take_length] at r3
          rw [flat_take _ hlt]
          exact r3
  · have ei : i = ys.length := by omega
    subst ei
    refine .inl ⟨W.stops H2 (hG (With T D) H2 (hid_with p1 nD)), ?_⟩
    rw [List.take_length] at p3
    refine q _ H2 (e1.trans p1) (.lst ?_ (p3.mono (hid_hid fun a t => .inl t)))
    rw [hid_no (ok1.1.not nD)]
    exact p2
theorem e_lc2 (C : At P w K mg base k N sc own X) {α β : Type} {elt tg iter tg1 it1 : Expr} {scope : Scope} (ow : List (Str × Nat)) (vs1 : List Nat) {ys : List α} (en : α → PyData) (zs : α → List β) (en1 : α → β → PyData) (f : α → β → PyData)
    (hi : IT X T ρ tg iter (ys.map en)) (turn : Clause2 P w K mg base k N sc ρ elt tg tg1 it1 scope (ow.map (·.2)) vs1 ys en zs en1 f) (hl : (ys.flatMap fun y => (zs y).map (f y)).length ≤ 100000) (hb : blkC N sc scope ow = true := by decide +kernel) (hv : ∀ i ∈ vs1, i ∈ ow.map (·.2) := by decide)
    (hk : scope.kind = .function := by rfl) (hs : ∀ x, foldedSetIterable iter X.env x = pure x := by intro _; rfl) (hs1 : ∀ env x, foldedSetIterable it1 env x = pure x := by intro _ _; rfl) :
    E X T ρ (.ListComp elt [⟨tg, iter, [], 0⟩, ⟨tg1, it1, [], 0⟩] scope pos) (.list (ys.flatMap fun y => (zs y).map (f y))) := fun σ H Q ok q =>
  to_we (pe_lc2 (wi := wi X tg iter) (g := gB X scope tg) (tt := tYes) (wi1 := iB X scope tg1 it1) (g1 := gB X scope tg1) (tt1 := tYes) (te := eB X scope elt) C.calm (by rw [C.eN]; exact C.nd) pi_wi (by rw [C.eN, C.esc]; exact blkOk_by hb) hv
    (fun s H' C' cl fp => ⟨fun pins s1 σ H v u Q I r h => h s H' C' cl fp pins s1 u I r⟩) (fun s H' C' cl fp => pts_nil)
    (fun s H' C' cl fp => ⟨fun pins s1 σ H R I h => h s H' C' cl fp pins s1 I⟩) (fun s H' C' cl fp => ⟨fun pins s1 σ H v u Q I r h => h s H' C' cl fp pins s1 u I r⟩) (fun s H' C' cl fp => pts_nil)
    (fun s H' C' cl fp => ⟨fun pins s1 σ H Q I h => h s H' C' cl fp pins s1 I⟩) hs hs1) (lc2_go C ok hi hk turn hl q)

/-! ### blocks -/
inductive Out where
  | rt (d : PyData)
  | nx (ρ : List (Option PyData))
def Out.go (T : Dom) (H : Hp) (D : Ends) : Out → Prop
  | .rt d => ∀ v H', Same H H' → Da (hid T H') v d → D.rt v H'
  | .nx ρ' => ∀ σ' H', Same H H' → Ok T ρ' σ' H' → D.nx σ' H'
/-- a block returns d, or ends with ρ' -/
def BO (X : Cx) (T : Dom) (ρ : List (Option PyData)) (sts : List Stmt) (o : Out) : Prop := ∀ σ H D, Ok T ρ σ H → o.go T H D → wss X sts D σ H
theorem go_same {H H' : Hp} {D : Ends} {o : Out} (h : o.go T H D) (e : Same H H') : o.go T H' D := by
  cases o with
  | rt d => exact fun v H2 e2 hv => h v H2 (e.trans e2) hv
  | nx ρ' => exact fun σ' H2 e2 ok => h σ' H2 (e.trans e2) ok
theorem wss_nil {σ : L2.St} {H : Hp} {D : Ends} (h : D.nx σ H) : wss X [] D σ H := to_wss pss_nil h
theorem wss_cons {st : Stmt} {rest : List Stmt} {σ : L2.St} {H : Hp} {D : Ends} (h : ws X st { D with nx := wss X rest D } σ H) : wss X (st :: rest) D σ H := to_wss (pss_cons ps_ws pss_wss) h
theorem b_nil : BO X T ρ [] (.nx ρ) := fun σ H D ok q => wss_nil (q σ H (Same.refl H) ok)
theorem BO.less {sts : List Stmt} {ρ1 ρ2 : List (Option PyData)} (h : BO X T ρ sts (.nx ρ1)) (hl : ρ2.length = ρ1.length) (z : ∀ (i : Nat) d, ρ2[i]? = some (some d) → ρ1[i]? = some (some d)) : BO X T ρ sts (.nx ρ2) := fun σ H D ok q =>
  h σ H D ok fun σ' H' e ok' => q σ' H' e ⟨ok'.1, ok'.2.less hl z⟩
theorem b_ret {e : Expr} {d : PyData} {rest : List Stmt} (h : E X T ρ e d) : BO X T ρ (.Return (some e) pos :: rest) (.rt d) := fun σ H D ok q => wss_cons (to_ws (ps_ret pe_we) (h σ H _ ok q))
theorem ws_set (C : At P w K mg base k N sc own X) {i : Nat} {x : Str} {e : Expr} {p : Pos} {σ : L2.St} {H : Hp} {D : Ends} (hx : storeOk N sc own i x = true) (hs : swapsWith e (some (.Name x p)) pos.line X.env = pure false) (h : we X e σ H fun v H1 => D.nx (σ.set i (some v)) H1) :
    ws X (.Assign [.Name x p] e pos) D σ H := by
  obtain ⟨h1, h2, h3, h4⟩ := C.store hx
  exact to_ws (ps_set h1 h2 h3 pe_we hs h4) h
theorem b_set (C : At P w K mg base k N sc own X) (i : Nat) {x : Str} {e : Expr} {p : Pos} {d : PyData} {rest : List Stmt} {o : Out} (h : E X T ρ e d) (hr : BO X T (ρ.set i (some d)) rest o) (hx : storeOk N sc own i x = true := by decide +kernel) (hs : swapsWith e (some (.Name x p)) pos.line X.env = pure false := by rfl) :
    BO X T ρ (.Assign [.Name x p] e pos :: rest) o := fun σ H D ok q =>
  wss_cons (ws_set C hx hs (h σ H _ ok fun v H1 e1 hv => hr _ H1 D ((ok.same e1).set hv) (go_same q e1)))
theorem b_lc (C : At P w K mg base k N sc own X) {α : Type} {elt tg iter : Expr} {ifs : List Expr} {scope : Scope} (i : Nat) {x : Str} {p spos : Pos} {rest : List Stmt} {o : Out} (ow : List (Str × Nat)) {ys : List α} (en : α → PyData) (b : α → Bool) (f : α → PyData)
    (hi : IT X T ρ tg iter (ys.map en)) (turn : Clause P w K mg base k N sc ρ elt tg ifs scope (ow.map (·.2)) ys en b f) (hl : ys.length ≤ 100000) (hr : BO X T (ρ.set i (some (.list (made b f ys)))) rest o) (hb : blkC N sc scope ow = true := by decide +kernel)
    (hN : N[i]? = some x := by decide +kernel) (hy : sc.names.lookup x = some .local := by decide +kernel) (hln : (p.line == pos.line) = true := by rfl) (ha : (scope.names.any fun (n, k) => n == x && (k == .local || k == .cell)) = false := by decide +kernel) (hk : scope.kind = .function := by rfl)
    (hs : ∀ x, foldedSetIterable iter X.env x = pure x := by intro _; rfl) : BO X T ρ (.Assign [.Name x p] (.ListComp elt [⟨tg, iter, ifs, 0⟩] scope pos) spos :: rest) o := fun σ H D ok q =>
  wss_cons (to_ws (ps_setLc (wi := wi X tg iter) (g := gB X scope tg) (tt := tB X scope ifs) (te := eB X scope elt) C.calm (by rw [C.eN]; exact C.nd) (by rw [C.eN]; exact hN) (by rw [C.esc]; exact hy)
    (sw_true (by rw [C.esc]; exact C.kind) (by rw [C.esc]; exact hy) hln ha) pi_wi (by rw [C.eN, C.esc]; exact blkOk_by hb)
    (fun s H' C' cl fp => ⟨fun pins s1 σ H v u Q I r h => h s H' C' cl fp pins s1 u I r⟩) (fun s H' C' cl fp => ⟨fun pins s1 σ H Q I h => h s H' C' cl fp pins s1 I⟩)
    (fun s H' C' cl fp => ⟨fun pins s1 σ H Q I h => h s H' C' cl fp pins s1 I⟩) hs) (lc_go C ok hi hk turn hl fun v H1 e1 hv => hr _ H1 D ((ok.same e1).set hv) (go_same q e1)))
theorem b_asg (C : At P w K mg base k N sc own X) {tg e : Expr} {d : PyData} {is : List Nat} {rest : List Stmt} {o : Out} (h : E X T ρ e d) (hg : TG1 X T tg d ρ ρ' is) (hr : BO X T ρ' rest o) (hs : swapsWithSole [tg] e pos.line X.env = pure false := by rfl) (hw : swappedStores [tg] e X.env = pure none := by rfl)
    (h1 : (assignEach [tg] X.env).map (·.2) = [assign tg X.env] := by rfl) : BO X T ρ (.Assign [tg] e pos :: rest) o := fun σ H D ok q =>
  wss_cons (to_ws (ps_asg pe_we pg_wg hs hw h1) (h σ H _ ok fun v H1 e1 hv => hg v σ H1 _ (ok.same e1) hv fun σ' ok' _ _ => hr σ' H1 D ok' (go_same q e1)))
theorem b_expr {e : Expr} {d : PyData} {rest : List Stmt} {o : Out} (h : E X T ρ e d) (hr : BO X T ρ rest o) (hs : swapsWith e none pos.line X.env = pure false := by rfl) : BO X T ρ (.Expr e pos :: rest) o := fun σ H D ok q =>
  wss_cons (to_ws (ps_expr pe_we hs) (h σ H _ ok fun v H1 e1 hv => hr σ H1 D (ok.same e1) (go_same q e1)))
theorem b_if {c : Expr} {a b : List Stmt} {x : Bool} {ρ1 : List (Option PyData)} {rest : List Stmt} {o : Out} (hc : ET X T ρ c x) (h : BO X T ρ (if x = true then a else b) (.nx ρ1)) (hr : BO X T ρ1 rest o) : BO X T ρ (.If c a b pos :: rest) o := fun σ H D ok q =>
  wss_cons (to_ws (ps_if pt_wt pss_wss pss_wss) (hc σ H _ ok fun H1 e1 => by
    cases x with
    | true => exact iteT (h σ H1 _ (ok.same e1) fun σ2 H2 e2 ok2 => hr σ2 H2 D ok2 (go_same q (e1.trans e2)))
    | false => exact iteF (h σ H1 _ (ok.same e1) fun σ2 H2 e2 ok2 => hr σ2 H2 D ok2 (go_same q (e1.trans e2)))))
theorem b_ifR {c : Expr} {a b : List Stmt} {x : Bool} {rest : List Stmt} {d : PyData} (hc : ET X T ρ c x) (h : BO X T ρ (if x = true then a else b) (.rt d)) : BO X T ρ (.If c a b pos :: rest) (.rt d) := fun σ H D ok q =>
  wss_cons (to_ws (ps_if pt_wt pss_wss pss_wss) (hc σ H _ ok fun H1 e1 => by
    cases x with
    | true => exact iteT (h σ H1 _ (ok.same e1) (go_same (o := .rt d) q e1))
    | false => exact iteF (h σ H1 _ (ok.same e1) (go_same (o := .rt d) q e1))))
/-- if c: return | raise; the branch is not taken -/
theorem b_ifF {c : Expr} {a : List Stmt} {rest : List Stmt} {o : Out} (hc : ET X T ρ c false) (hr : BO X T ρ rest o) : BO X T ρ (.If c a [] pos :: rest) o := b_if hc (by rw [if_neg Bool.false_ne_true]; exact b_nil) hr
/-- if c: return a; then the rest -/
theorem b_ifC {c : Expr} {a : List Stmt} {x : Bool} {rest : List Stmt} {d : PyData} (hc : ET X T ρ c x) (h1 : x = true → BO X T ρ a (.rt d)) (h2 : x = false → BO X T ρ rest (.rt d)) : BO X T ρ (.If c a [] pos :: rest) (.rt d) := by
  cases x with
  | true => exact b_ifR hc (by rw [if_pos rfl]; exact h1 rfl)
  | false => exact b_ifF hc (h2 rfl)
/-- a for that goes through -/
theorem b_for (C : At P w K mg base k N sc own X) {α : Type} {tg it : Expr} {body rest : List Stmt} {o : Out} {ys : List α} (en : α → PyData) (R : Nat → List (Option PyData)) (hi : IT X T ρ tg it (ys.map en)) (h0 : R 0 = ρ)
    (turn : ∀ i (h : i < ys.length), ∃ ρ' is, TG1 X T tg (en ys[i]) (R i) ρ' is ∧ BO X T ρ' body (.nx (R (i + 1)))) (hr : BO X T (R ys.length) rest o) (hs : ∀ x, foldedSetIterable it X.env x = pure x := by intro _; rfl) :
    BO X T ρ (.For tg it body [] pos :: rest) o := fun σ H D ok q =>
  wss_cons (to_ws (ps_for (by rw [C.xe]; exact PassesOwn.never) C.calm pi_wi pg_wg pss_wss hs) (hi σ H _ ok fun H1 J G Y e1 W hG hY => by
    rw [List.length_map] at W
    refine for_it W (fun i σ2 H2 => Same H1 H2 ∧ Ok T (R i) σ2 H2) ⟨Same.refl _, by rw [h0]; exact ok.same e1⟩ (fun i σ2 H2 _ p => hG T H2 (same_hid p.1)) (fun i x σ2 H2 H3 hlt p y => ?_) fun σ2 H2 p => hr σ2 H2 D p.2 (go_same q (e1.trans p.1))
    obtain ⟨e3, d, hd, dx⟩ := hY T i H2 x H3 (same_hid p.1) p.2.1 y
    rw [List.getElem?_map, List.getElem?_eq_getElem hlt] at hd
    have hd' : en ys[i] = d := Option.some.inj hd
    subst hd'
    obtain ⟨ρ', is, tr, tb⟩ := turn i hlt
    exact tr x σ2 H3 _ (p.2.same e3) dx fun σ' ok' _ _ => tb σ' H3 _ ok' fun σ4 H4 e4 ok4 => ⟨(p.1.trans e3).trans e4, ok4⟩))
/-- a for that returns in turn j -/
theorem b_forR (C : At P w K mg base k N sc own X) {α : Type} {tg it : Expr} {body rest : List Stmt} {d : PyData} {ys : List α} (en : α → PyData) (R : Nat → List (Option PyData)) (j : Nat) (hj : j < ys.length) (hi : IT X T ρ tg it (ys.map en)) (h0 : R 0 = ρ)
    (turn : ∀ i (h : i < ys.length), i < j → ∃ ρ' is, TG1 X T tg (en ys[i]) (R i) ρ' is ∧ BO X T ρ' body (.nx (R (i + 1)))) (last : ∃ ρ' is, TG1 X T tg (en ys[j]) (R j) ρ' is ∧ BO X T ρ' body (.rt d)) (hs : ∀ x, foldedSetIterable it X.env x = pure x := by intro _; rfl) :
    BO X T ρ (.For tg it body [] pos :: rest) (.rt d) := fun σ H D ok q =>
  wss_cons (to_ws (ps_for (by rw [C.xe]; exact PassesOwn.never) C.calm pi_wi pg_wg pss_wss hs) (hi σ H _ ok fun H1 J G Y e1 W hG hY => by
    rw [List.length_map] at W
    refine for_it W (fun i σ2 H2 => Same H1 H2 ∧ i ≤ j ∧ Ok T (R i) σ2 H2) ⟨Same.refl _, Nat.zero_le _, by rw [h0]; exact ok.same e1⟩ (fun i σ2 H2 _ p => hG T H2 (same_hid p.1)) (fun i x σ2 H2 H3 hlt p y => ?_) fun σ2 H2 p => absurd p.2.1 (by omega)
    obtain ⟨p1, p0, p2⟩ := p
    obtain ⟨e3, d', hd, dx⟩ := hY T i H2 x H3 (same_hid p1) p2.1 y
    rw [List.getElem?_map, List.getElem?_eq_getElem hlt] at hd
    have hd' : en ys[i] = d' := Option.some.inj hd
    subst hd'
    by_cases hij : i < j
    · obtain ⟨ρ', is, tr, tb⟩ := turn i hlt hij
      exact tr x σ2 H3 _ (p2.same e3) dx fun σ' ok' _ _ => tb σ' H3 _ ok' fun σ4 H4 e4 ok4 => ⟨(p1.trans e3).trans e4, hij, ok4⟩
    · have ei : i = j := by omega
      subst ei
      obtain ⟨ρ', is, tr, tb⟩ := last
      exact tr x σ2 H3 _ (p2.same e3) dx fun σ' ok' _ _ => tb σ' H3 _ ok' fun v H4 e4 hv => q v H4 (e1.trans ((p1.trans e3).trans e4)) hv))

/-! ### a def -/
def startD (N : List Str) (ds : List PyData) : List (Option PyData) := ds.map some ++ List.replicate (N.length - ds.length) none
theorem start_ok {G : Hp} {vs : List V} {ds : List PyData} (h : Das G vs ds) : SD (startD N ds) (L2.start N vs) G := by
  have hl := h.length
  refine ⟨by unfold L2.start startD; rw [List.length_append, List.length_append, List.length_map, List.length_map, List.length_replicate, List.length_replicate, hl], fun i d hd => ?_⟩
  unfold startD at hd
  unfold L2.start
  by_cases z : i < ds.length
  · rw [List.getElem?_append_left (by simpa using z), List.getElem?_map] at hd
    rw [List.getElem?_append_left (by rw [List.length_map, hl]; exact z), List.getElem?_map]
    cases q : ds[i]? with
    | none => rw [q] at hd; cases hd
    | some d' =>
      rw [q] at hd
      have e : d' = d := Option.some.inj (Option.some.inj hd)
      subst e
      obtain ⟨v, h1, h2⟩ := h.get q
      exact ⟨v, by rw [h1]; rfl, h2⟩
  · rw [List.getElem?_append_right (by simpa using z), List.getElem?_replicate] at hd
    split at hd <;> cases hd
theorem at_of {ps : List Str} {qual : Str} {scope : Scope} {f : Addr} {cdv : Value} {A : Around} {outer : List Env} {s : Shared} {H : Hp} {Ex : XK} (S : FnScope N ps scope) (hr : Room k (A.deeper (envOfC qual scope s.heap.objs.size f cdv))) :
    At P w K mg base k N scope scope (cxOf CX0 P w K mg base N qual scope f cdv A outer s H Ex).nox :=
  ⟨rfl, rfl, rfl, rfl, rfl, rfl, rfl, rfl, hr, S.nd, fun _ _ => rfl, rfl, S.kind⟩
/-- a def keeps any promise by the weakest reading of its body -/
theorem fn_any {x qual : Str} {st : Stmt} {f : Addr} {fd : FuncData} {ps : List Str} {sp : Sp} (F : Fun K x qual st f fd) (S : FnScope N ps (defScope st)) (len : ∀ vs H Q E, sp vs H Q E → vs.length = ps.length)
    (body : ∀ X, At P w K mg base k N (defScope st) (defScope st) X → ∀ vs H Q E, sp vs H Q E → wss X (defBody st) { nx := fun _ H' => Q .non H', rt := Q } (L2.start N vs) H) : FnOk P w K mg base CX0 (k + 1) f fd ps sp :=
  F.ok S len fun cdv A outer s H vs Q Ex hr h => ⟨_, pss_wss, body _ (at_of S hr) vs H Q Ex h⟩
/-- a pure def -/
theorem fn_pure {x qual : Str} {st : Stmt} {f : Addr} {fd : FuncData} {ps : List Str} {R : List PyData → PyData → Prop} (F : Fun K x qual st f fd) (S : FnScope N ps (defScope st)) (len : ∀ ds d, R ds d → ds.length = ps.length)
    (body : ∀ X T ds d, At P w K mg base k N (defScope st) (defScope st) X → R ds d → BO X T (startD N ds) (defBody st) (.rt d)) : FnOk P w K mg base CX0 (k + 1) f fd ps (Pu R) :=
  fn_any F S (fun vs H Q _ ⟨T, ds, d, _, h, hR, _⟩ => by rw [h.length]; exact len ds d hR) fun X C vs H Q _ ⟨T, ds, d, hT, h, hR, q⟩ =>
    body X T ds d C hR (L2.start N vs) H _ ⟨hT, start_ok h⟩ q
/-- .. that ends without return -/
theorem fn_pureN {x qual : Str} {st : Stmt} {f : Addr} {fd : FuncData} {ps : List Str} {R : List PyData → PyData → Prop} (F : Fun K x qual st f fd) (S : FnScope N ps (defScope st)) (len : ∀ ds d, R ds d → ds.length = ps.length) (hn : ∀ ds d, R ds d → d = .none)
    (body : ∀ X T ds d, At P w K mg base k N (defScope st) (defScope st) X → R ds d → ∃ ρ', BO X T (startD N ds) (defBody st) (.nx ρ')) : FnOk P w K mg base CX0 (k + 1) f fd ps (Pu R) :=
  fn_any F S (fun vs H Q _ ⟨T, ds, d, _, h, hR, _⟩ => by rw [h.length]; exact len ds d hR) fun X C vs H Q _ ⟨T, ds, d, hT, h, hR, q⟩ => by
    obtain ⟨ρ', b⟩ := body X T ds d C hR
    have e := hn ds d hR
    subst e
    exact b (L2.start N vs) H _ ⟨hT, start_ok h⟩ fun σ' H' e _ => q _ H' e .non
end
end Sk
set_option maxHeartbeats 4000000
/-! SkT: the text's defs by place, their names by slot (printed by gen_t.py). -/
namespace Sk
open PySem PySem.Spec PyProof.Rows L2
def topS (i : Nat) : Stmt := PySem.Challenge.pw_secondknock_k21_whole_which_feeler_an_ou.main.body.getD i (.Pass ⟨0, 0, 0, 0⟩)
abbrev s_tupled : Stmt := topS 6
abbrev n_tupled : List Str := ["value", "own"]
theorem sc_tupled : FnScope n_tupled ["value"] (defScope s_tupled) := ⟨rfl, rfl, rfl, by decide +kernel, rfl, by decide +kernel, by decide +kernel⟩
abbrev s_set_of : Stmt := topS 7
abbrev n_set_of : List Str := ["row"]
theorem sc_set_of : FnScope n_set_of ["row"] (defScope s_set_of) := ⟨rfl, rfl, rfl, by decide +kernel, rfl, by decide +kernel, by decide +kernel⟩
abbrev s_is_over : Stmt := topS 10
abbrev n_is_over : List Str := ["row", "other", "plus", "spot", "number"]
theorem sc_is_over : FnScope n_is_over ["row", "other"] (defScope s_is_over) := ⟨rfl, rfl, rfl, by decide +kernel, rfl, by decide +kernel, by decide +kernel⟩
abbrev s_least_of : Stmt := topS 11
abbrev n_least_of : List Str := ["rows", "own", "row", "other"]
theorem sc_least_of : FnScope n_least_of ["rows"] (defScope s_least_of) := ⟨rfl, rfl, rfl, by decide +kernel, rfl, by decide +kernel, by decide +kernel⟩
abbrev s_knock_form : Stmt := topS 12
abbrev n_knock_form : List Str := ["spots", "number", "own", "spot", "place", "one", "other"]
theorem sc_knock_form : FnScope n_knock_form ["spots", "number"] (defScope s_knock_form) := ⟨rfl, rfl, rfl, by decide +kernel, rfl, by decide +kernel, by decide +kernel⟩
abbrev s_after : Stmt := topS 13
abbrev n_after : List Str := ["form", "plus", "spot", "number", "row"]
theorem sc_after : FnScope n_after ["form", "plus"] (defScope s_after) := ⟨rfl, rfl, rfl, by decide +kernel, rfl, by decide +kernel, by decide +kernel⟩
abbrev s_joined : Stmt := topS 14
abbrev n_joined : List Str := ["row", "other", "found", "spot", "plus"]
theorem sc_joined : FnScope n_joined ["row", "other"] (defScope s_joined) := ⟨rfl, rfl, rfl, by decide +kernel, rfl, by decide +kernel, by decide +kernel⟩
abbrev s_either : Stmt := topS 15
abbrev n_either : List Str := ["form", "other", "one", "two"]
theorem sc_either : FnScope n_either ["form", "other"] (defScope s_either) := ⟨rfl, rfl, rfl, by decide +kernel, rfl, by decide +kernel, by decide +kernel⟩
abbrev s_both : Stmt := topS 16
abbrev n_both : List Str := ["form", "other", "one", "two", "row", "more"]
theorem sc_both : FnScope n_both ["form", "other"] (defScope s_both) := ⟨rfl, rfl, rfl, by decide +kernel, rfl, by decide +kernel, by decide +kernel⟩
abbrev s_without : Stmt := topS 17
abbrev n_without : List Str := ["form", "spots", "lost", "row", "spot", "_"]
theorem sc_without : FnScope n_without ["form", "spots"] (defScope s_without) := ⟨rfl, rfl, rfl, by decide +kernel, rfl, by decide +kernel, by decide +kernel⟩
abbrev s_spots_of : Stmt := topS 19
abbrev n_spots_of : List Str := ["house", "word", "own", "found", "ring", "_", "pieces", "number", "piece"]
theorem sc_spots_of : FnScope n_spots_of ["house", "word"] (defScope s_spots_of) := ⟨rfl, rfl, rfl, by decide +kernel, rfl, by decide +kernel, by decide +kernel⟩
abbrev s_feelers : Stmt := topS 20
abbrev n_feelers : List Str := ["house"]
theorem sc_feelers : FnScope n_feelers ["house"] (defScope s_feelers) := ⟨rfl, rfl, rfl, by decide +kernel, rfl, by decide +kernel, by decide +kernel⟩
abbrev s_rises : Stmt := topS 21
abbrev n_rises : List Str := ["house", "own", "zone", "line"]
theorem sc_rises : FnScope n_rises ["house"] (defScope s_rises) := ⟨rfl, rfl, rfl, by decide +kernel, rfl, by decide +kernel, by decide +kernel⟩
abbrev s_rising : Stmt := topS 30
abbrev n_rising : List Str := ["house", "own"]
theorem sc_rising : FnScope n_rising ["house"] (defScope s_rising) := ⟨rfl, rfl, rfl, by decide +kernel, rfl, by decide +kernel, by decide +kernel⟩
abbrev s_some_spots : Stmt := topS 31
abbrev n_some_spots : List Str := ["house", "spots", "own", "known", "spot"]
theorem sc_some_spots : FnScope n_some_spots ["house", "spots"] (defScope s_some_spots) := ⟨rfl, rfl, rfl, by decide +kernel, rfl, by decide +kernel, by decide +kernel⟩
abbrev s_sure_out : Stmt := topS 32
abbrev n_sure_out : List Str := ["house", "out"]
theorem sc_sure_out : FnScope n_sure_out ["house", "out"] (defScope s_sure_out) := ⟨rfl, rfl, rfl, by decide +kernel, rfl, by decide +kernel, by decide +kernel⟩
abbrev s_form_of_zone : Stmt := topS 33
abbrev n_form_of_zone : List Str := ["house", "number", "lost", "spots", "knocks", "_"]
theorem sc_form_of_zone : FnScope n_form_of_zone ["house", "number", "lost"] (defScope s_form_of_zone) := ⟨rfl, rfl, rfl, by decide +kernel, rfl, by decide +kernel, by decide +kernel⟩
abbrev s_form_of_line : Stmt := topS 34
abbrev n_form_of_line : List Str := ["house", "line", "lost", "forms", "found", "form", "number"]
theorem sc_form_of_line : FnScope n_form_of_line ["house", "line", "lost"] (defScope s_form_of_line) := ⟨rfl, rfl, rfl, by decide +kernel, rfl, by decide +kernel, by decide +kernel⟩
abbrev s_form_of_out : Stmt := topS 35
abbrev n_form_of_out : List Str := ["house", "lines", "out", "lost", "found", "line"]
theorem sc_form_of_out : FnScope n_form_of_out ["house", "lines", "out", "lost"] (defScope s_form_of_out) := ⟨rfl, rfl, rfl, by decide +kernel, rfl, by decide +kernel, by decide +kernel⟩
abbrev s_hangs_on : Stmt := topS 36
abbrev n_hangs_on : List Str := ["house", "out", "spot", "own", "place", "form", "left"]
theorem sc_hangs_on : FnScope n_hangs_on ["house", "out", "spot"] (defScope s_hangs_on) := ⟨rfl, rfl, rfl, by decide +kernel, rfl, by decide +kernel, by decide +kernel⟩
abbrev s_law_box : Stmt := topS 38
abbrev n_law_box : List Str := ["_law_script", "_law_k", "_law_cell"]
theorem sc_law_box : FnScope n_law_box ["_law_script", "_law_k"] (defScope s_law_box) := ⟨rfl, rfl, rfl, by decide +kernel, rfl, by decide +kernel, by decide +kernel⟩
abbrev s_law_take : Stmt := topS 39
abbrev n_law_take : List Str := ["_law_tin", "_law_below_so", "_law_drawn", "_law_once_so", "_law_wide_so", "_law_twice_so"]
theorem sc_law_take : FnScope n_law_take ["_law_tin", "_law_below_so"] (defScope s_law_take) := ⟨rfl, rfl, rfl, by decide +kernel, rfl, by decide +kernel, by decide +kernel⟩
abbrev s_law_cells : Stmt := topS 40
abbrev n_law_cells : List Str := ["_law_script", "_law_most_so", "_law_cells_so", "_law_k", "_law_cell", "_law_at_so"]
theorem sc_law_cells : FnScope n_law_cells ["_law_script", "_law_most_so"] (defScope s_law_cells) := ⟨rfl, rfl, rfl, by decide +kernel, rfl, by decide +kernel, by decide +kernel⟩
abbrev s_law_of : Stmt := topS 41
abbrev n_law_of : List Str := ["_law_tin", "_law_goods_so"]
theorem sc_law_of : FnScope n_law_of ["_law_tin", "_law_goods_so"] (defScope s_law_of) := ⟨rfl, rfl, rfl, by decide +kernel, rfl, by decide +kernel, by decide +kernel⟩
abbrev s_law_pick : Stmt := topS 42
abbrev n_law_pick : List Str := ["_law_tin", "_law_goods_so", "_law_count_so", "_law_pool_so", "_law_found", "_law_lap"]
theorem sc_law_pick : FnScope n_law_pick ["_law_tin", "_law_goods_so", "_law_count_so"] (defScope s_law_pick) := ⟨rfl, rfl, rfl, by decide +kernel, rfl, by decide +kernel, by decide +kernel⟩
abbrev s_law_lists : Stmt := topS 43
abbrev n_law_lists : List Str := ["_law_matter", "_law_bit"]
theorem sc_law_lists : FnScope n_law_lists ["_law_matter"] (defScope s_law_lists) := ⟨rfl, rfl, rfl, by decide +kernel, rfl, by decide +kernel, by decide +kernel⟩
abbrev s_law_same : Stmt := topS 44
abbrev n_law_same : List Str := ["_law_got", "_law_due", "_law_mine", "_law_its"]
theorem sc_law_same : FnScope n_law_same ["_law_got", "_law_due"] (defScope s_law_same) := ⟨rfl, rfl, rfl, by decide +kernel, rfl, by decide +kernel, by decide +kernel⟩
abbrev s_law_hall : Stmt := topS 45
abbrev n_law_hall : List Str := []
theorem sc_law_hall : FnScope n_law_hall [] (defScope s_law_hall) := ⟨rfl, rfl, rfl, by decide +kernel, rfl, by decide +kernel, by decide +kernel⟩
abbrev s_law_inn : Stmt := topS 46
abbrev n_law_inn : List Str := ["_law_zones_so"]
theorem sc_law_inn : FnScope n_law_inn [] (defScope s_law_inn) := ⟨rfl, rfl, rfl, by decide +kernel, rfl, by decide +kernel, by decide +kernel⟩
abbrev s_law_spots : Stmt := topS 47
abbrev n_law_spots : List Str := ["_law_wires_so", "_law_found", "_law_n", "_law_loop_so", "_law_k", "_law_own"]
theorem sc_law_spots : FnScope n_law_spots ["_law_wires_so"] (defScope s_law_spots) := ⟨rfl, rfl, rfl, by decide +kernel, rfl, by decide +kernel, by decide +kernel⟩
abbrev s_law_feelers : Stmt := topS 48
abbrev n_law_feelers : List Str := ["_law_wires_so", "_law_own"]
theorem sc_law_feelers : FnScope n_law_feelers ["_law_wires_so"] (defScope s_law_feelers) := ⟨rfl, rfl, rfl, by decide +kernel, rfl, by decide +kernel, by decide +kernel⟩
abbrev s_law_kth : Stmt := topS 49
abbrev n_law_kth : List Str := ["_law_numbers_so", "_law_k", "_law_own", "_law_n"]
theorem sc_law_kth : FnScope n_law_kth ["_law_numbers_so", "_law_k"] (defScope s_law_kth) := ⟨rfl, rfl, rfl, by decide +kernel, rfl, by decide +kernel, by decide +kernel⟩
abbrev s_law_hours : Stmt := topS 50
abbrev n_law_hours : List Str := ["_law_abode_so", "_law_begun_so", "_law_own", "_law_found", "_law_spots_so", "_law_knocks_so", "_law_stay_so", "_law_its"]
theorem sc_law_hours : FnScope n_law_hours ["_law_abode_so", "_law_begun_so"] (defScope s_law_hours) := ⟨rfl, rfl, rfl, by decide +kernel, rfl, by decide +kernel, by decide +kernel⟩
abbrev s_law_line_hour : Stmt := topS 51
abbrev n_law_line_hour : List Str := ["_law_line_so", "_law_hours_so", "_law_own", "_law_begin_so", "_law_end_so", "_law_z"]
theorem sc_law_line_hour : FnScope n_law_line_hour ["_law_line_so", "_law_hours_so"] (defScope s_law_line_hour) := ⟨rfl, rfl, rfl, by decide +kernel, rfl, by decide +kernel, by decide +kernel⟩
abbrev s_law_outs : Stmt := topS 52
abbrev n_law_outs : List Str := ["_law_abode_so", "_law_hours_so", "_law_found", "_law_k", "_law_rows_so", "_law_own"]
theorem sc_law_outs : FnScope n_law_outs ["_law_abode_so", "_law_hours_so"] (defScope s_law_outs) := ⟨rfl, rfl, rfl, by decide +kernel, rfl, by decide +kernel, by decide +kernel⟩
abbrev s_law_loop : Stmt := topS 53
abbrev n_law_loop : List Str := ["_law_tin", "_law_panel_so", "_law_feelers_so", "_law_rest_so", "_law_pool_so", "_law_k"]
theorem sc_law_loop : FnScope n_law_loop ["_law_tin", "_law_panel_so", "_law_feelers_so"] (defScope s_law_loop) := ⟨rfl, rfl, rfl, by decide +kernel, rfl, by decide +kernel, by decide +kernel⟩
abbrev s_law_wires : Stmt := topS 54
abbrev n_law_wires : List Str := ["_law_tin", "_law_panels_so"]
theorem sc_law_wires : FnScope n_law_wires ["_law_tin", "_law_panels_so"] (defScope s_law_wires) := ⟨rfl, rfl, rfl, by decide +kernel, rfl, by decide +kernel, by decide +kernel⟩
abbrev s_law_zone : Stmt := topS 55
abbrev n_law_zone : List Str := ["_law_tin", "_law_wires_so", "_law_panel_so", "_law_stays", "_law_goods_so", "_law_spots_so", "_law_stay_so", "_law_own"]
theorem sc_law_zone : FnScope n_law_zone ["_law_tin", "_law_wires_so", "_law_panel_so", "_law_stays"] (defScope s_law_zone) := ⟨rfl, rfl, rfl, by decide +kernel, rfl, by decide +kernel, by decide +kernel⟩
abbrev s_law_line : Stmt := topS 56
abbrev n_law_line : List Str := ["_law_tin", "_law_panels_so", "_law_zones_so", "_law_bars", "_law_own", "_law_bar_so"]
theorem sc_law_line : FnScope n_law_line ["_law_tin", "_law_panels_so", "_law_zones_so", "_law_bars"] (defScope s_law_line) := ⟨rfl, rfl, rfl, by decide +kernel, rfl, by decide +kernel, by decide +kernel⟩
abbrev s_law_abode : Stmt := topS 57
abbrev n_law_abode : List Str := ["_law_tin", "_law_panels_so", "_law_stays", "_law_bars", "_law_wires_so", "_law_many_so", "_law_zones_so", "_law_lines_so", "_law_k"]
theorem sc_law_abode : FnScope n_law_abode ["_law_tin", "_law_panels_so", "_law_stays", "_law_bars"] (defScope s_law_abode) := ⟨rfl, rfl, rfl, by decide +kernel, rfl, by decide +kernel, by decide +kernel⟩
abbrev s_law_begun : Stmt := topS 58
abbrev n_law_begun : List Str := ["_law_tin", "_law_wires_so", "_law_last_so", "_law_goods_so", "_law_own", "_law_spot_so"]
theorem sc_law_begun : FnScope n_law_begun ["_law_tin", "_law_wires_so", "_law_last_so"] (defScope s_law_begun) := ⟨rfl, rfl, rfl, by decide +kernel, rfl, by decide +kernel, by decide +kernel⟩
abbrev s_law_put_at : Stmt := topS 59
abbrev n_law_put_at : List Str := ["_law_row_so", "_law_place_so", "_law_bit_so"]
theorem sc_law_put_at : FnScope n_law_put_at ["_law_row_so", "_law_place_so", "_law_bit_so"] (defScope s_law_put_at) := ⟨rfl, rfl, rfl, by decide +kernel, rfl, by decide +kernel, by decide +kernel⟩
abbrev s_law_meet_rows : Stmt := topS 60
abbrev n_law_meet_rows : List Str := ["_law_one_so", "_law_two_so", "_law_found", "_law_row_so", "_law_its", "_law_plus_so", "_law_own", "_law_spot_so"]
theorem sc_law_meet_rows : FnScope n_law_meet_rows ["_law_one_so", "_law_two_so"] (defScope s_law_meet_rows) := ⟨rfl, rfl, rfl, by decide +kernel, rfl, by decide +kernel, by decide +kernel⟩
abbrev s_law_zone_rows : Stmt := topS 61
abbrev n_law_zone_rows : List Str := ["_law_zone_so", "_law_one_so", "_law_own", "_law_row_so"]
theorem sc_law_zone_rows : FnScope n_law_zone_rows ["_law_zone_so"] (defScope s_law_zone_rows) := ⟨rfl, rfl, rfl, by decide +kernel, rfl, by decide +kernel, by decide +kernel⟩
abbrev s_law_line_rows : Stmt := topS 62
abbrev n_law_line_rows : List Str := ["_law_abode_so", "_law_line_so", "_law_found", "_law_z", "_law_its", "_law_own", "_law_row_so"]
theorem sc_law_line_rows : FnScope n_law_line_rows ["_law_abode_so", "_law_line_so"] (defScope s_law_line_rows) := ⟨rfl, rfl, rfl, by decide +kernel, rfl, by decide +kernel, by decide +kernel⟩
abbrev s_law_fire_of : Stmt := topS 63
abbrev n_law_fire_of : List Str := ["_law_row_so", "_law_most_so", "_law_own"]
theorem sc_law_fire_of : FnScope n_law_fire_of ["_law_row_so"] (defScope s_law_fire_of) := ⟨rfl, rfl, rfl, by decide +kernel, rfl, by decide +kernel, by decide +kernel⟩
abbrev s_law_fires : Stmt := topS 64
abbrev n_law_fires : List Str := ["_law_abode_so", "_law_k", "_law_found", "_law_line_so", "_law_row_so"]
theorem sc_law_fires : FnScope n_law_fires ["_law_abode_so", "_law_k"] (defScope s_law_fires) := ⟨rfl, rfl, rfl, by decide +kernel, rfl, by decide +kernel, by decide +kernel⟩
abbrev s_law_out_at : Stmt := topS 65
abbrev n_law_out_at : List Str := ["_law_abode_so", "_law_begun_so", "_law_k"]
theorem sc_law_out_at : FnScope n_law_out_at ["_law_abode_so", "_law_begun_so", "_law_k"] (defScope s_law_out_at) := ⟨rfl, rfl, rfl, by decide +kernel, rfl, by decide +kernel, by decide +kernel⟩
abbrev s_law_but : Stmt := topS 66
abbrev n_law_but : List Str := ["_law_begun_so", "_law_lost_so", "_law_own"]
theorem sc_law_but : FnScope n_law_but ["_law_begun_so", "_law_lost_so"] (defScope s_law_but) := ⟨rfl, rfl, rfl, by decide +kernel, rfl, by decide +kernel, by decide +kernel⟩
abbrev s_law_rise : Stmt := topS 67
abbrev n_law_rise : List Str := ["_law_tin", "_law_panels_so", "_law_abode_so", "_law_goods_so", "_law_first_so", "_law_second_so", "_law_zones_so", "_law_lines_so", "_law_lap", "_law_own"]
theorem sc_law_rise : FnScope n_law_rise ["_law_tin", "_law_panels_so"] (defScope s_law_rise) := ⟨rfl, rfl, rfl, by decide +kernel, rfl, by decide +kernel, by decide +kernel⟩
abbrev s_law_hand_right : Stmt := topS 68
abbrev n_law_hand_right : List Str := ["_law_inn_here", "_law_one_so", "_law_none_so", "_law_got"]
theorem sc_law_hand_right : FnScope n_law_hand_right [] (defScope s_law_hand_right) := ⟨rfl, rfl, rfl, by decide +kernel, rfl, by decide +kernel, by decide +kernel⟩
abbrev s_law_word : Stmt := topS 69
abbrev n_law_word : List Str := ["_law_abode_so", "_law_k", "_law_spot_so", "_law_all_so", "_law_begun_so", "_law_own"]
theorem sc_law_word : FnScope n_law_word ["_law_abode_so", "_law_k", "_law_spot_so"] (defScope s_law_word) := ⟨rfl, rfl, rfl, by decide +kernel, rfl, by decide +kernel, by decide +kernel⟩
abbrev s_law_right : Stmt := topS 70
abbrev n_law_right : List Str := ["_law_tin", "_law_abode_so", "_law_goods_so", "_law_words_so", "_law_k", "_law_got", "_law_lap", "_law_begun_so", "_law_own", "_law_word_here", "_law_one_so", "_law_two_so"]
theorem sc_law_right : FnScope n_law_right ["_law_tin"] (defScope s_law_right) := ⟨rfl, rfl, rfl, by decide +kernel, rfl, by decide +kernel, by decide +kernel⟩
abbrev s_law : Stmt := topS 71
abbrev n_law : List Str := ["_law_script"]
theorem sc_law : FnScope n_law ["_law_script"] (defScope s_law) := ⟨rfl, rfl, rfl, by decide +kernel, rfl, by decide +kernel, by decide +kernel⟩
end Sk
set_option maxHeartbeats 4000000
/-! SkM: typed data of the program and their PyData. -/
namespace Sk
open PySem PySem.Spec PyProof.Rows L2
abbrev Spot := Int × Int
abbrev Pr := Spot × Int
abbrev Row := List Pr
def eSpot (s : Spot) : PyData := .tuple [.int s.1, .int s.2]
def ePair (p : Pr) : PyData := .tuple [eSpot p.1, .int p.2]
def eRow (r : Row) : PyData := .tuple (r.map ePair)
def eForm (f : List Row) : PyData := .tuple (f.map eRow)
/-! ### == of data without bools is = -/
def noB : PyData → Bool
  | .bool _ => false
  | .list ds => noBs ds
  | .tuple ds => noBs ds
  | .dict _ => false
  | _ => true
where noBs : List PyData → Bool
  | [] => true
  | d :: ds => noB d && noBs ds
mutual
theorem eqv_iff : ∀ {d e : PyData}, noB d = true → noB e = true → (PyData.eqv d e = true ↔ d = e)
  | .none, .none, _, _ => by simp [PyData.eqv]
  | .int i, .int j, _, _ => by simp [PyData.eqv]
  | .str x, .str y, _, _ => by simp [PyData.eqv]
  | .list xs, .list ys, h, h' => by
    rw [noB] at h h'
    simp only [PyData.eqv, PyData.list.injEq]
    exact eqvs_iff h h'
  | .tuple xs, .tuple ys, h, h' => by
    rw [noB] at h h'
    simp only [PyData.eqv, PyData.tuple.injEq]
    exact eqvs_iff h h'
  | .none, .bool _, _, h | .none, .dict _, _, h | .int _, .bool _, _, h | .int _, .dict _, _, h | .str _, .bool _, _, h | .str _, .dict _, _, h | .list _, .bool _, _, h | .list _, .dict _, _, h | .tuple _, .bool _, _, h | .tuple _, .dict _, _, h => by simp [noB] at h
  | .bool _, _, h, _ => by simp [noB] at h
  | .dict _, _, h, _ => by simp [noB] at h
  | .none, .int _, _, _ | .none, .str _, _, _ | .none, .list _, _, _ | .none, .tuple _, _, _ => by simp [PyData.eqv]
  | .int _, .none, _, _ | .int _, .str _, _, _ | .int _, .list _, _, _ | .int _, .tuple _, _, _ => by simp [PyData.eqv]
  | .str _, .none, _, _ | .str _, .int _, _, _ | .str _, .list _, _, _ | .str _, .tuple _, _, _ => by simp [PyData.eqv]
  | .list _, .none, _, _ | .list _, .int _, _, _ | .list _, .str _, _, _ | .list _, .tuple _, _, _ => by simp [PyData.eqv]
  | .tuple _, .none, _, _ | .tuple _, .int _, _, _ | .tuple _, .str _, _, _ | .tuple _, .list _, _, _ => by simp [PyData.eqv]
theorem eqvs_iff : ∀ {ds es : List PyData}, noB.noBs ds = true → noB.noBs es = true → (PyData.eqvAll ds es = true ↔ ds = es)
  | [], [], _, _ => by simp [PyData.eqvAll]
  | d :: ds, e :: es, h, h' => by
    rw [noB.noBs, Bool.and_eq_true] at h h'
    simp only [PyData.eqvAll, Bool.and_eq_true, List.cons.injEq]
    rw [eqv_iff h.1 h'.1, eqvs_iff h.2 h'.2]
  | [], _ :: _, _, _ => by simp [PyData.eqvAll]
  | _ :: _, [], _, _ => by simp [PyData.eqvAll]
end
theorem eqv_dec {α : Type} [DecidableEq α] {en : α → PyData} (hn : ∀ a, noB (en a) = true) (inj : ∀ a b, en a = en b → a = b) (x y : α) : PyData.eqv (en x) (en y) = decide (x = y) := by
  rw [Bool.eq_iff_iff, eqv_iff (hn x) (hn y), decide_eq_true_iff]
  exact ⟨inj x y, fun e => by rw [e]⟩
theorem noBs_map {α : Type} {en : α → PyData} (h : ∀ a, noB (en a) = true) : ∀ l : List α, noB.noBs (l.map en) = true
  | [] => rfl
  | a :: l => by rw [List.map_cons, noB.noBs, h a, noBs_map h l]; rfl
theorem map_inj {α β : Type} {en : α → β} (inj : ∀ a b, en a = en b → a = b) : ∀ l m : List α, l.map en = m.map en → l = m
  | [], [], _ => rfl
  | [], _ :: _, h => by simp at h
  | _ :: _, [], h => by simp at h
  | a :: l, b :: m, h => by
    rw [List.map_cons, List.map_cons, List.cons.injEq] at h
    rw [inj a b h.1, map_inj inj l m h.2]
/-! ### shapes: depth and sendable -/
theorem lay_all {α : Type} {en : α → PyData} (h : ∀ a, (en a).canLay0 = true) : ∀ l : List α, PyData.canLayAll0 (l.map en) = true
  | [] => by simp [PyData.canLayAll0]
  | a :: l => by rw [List.map_cons, PyData.canLayAll0, h a, lay_all h l]; rfl
theorem depth_all {α : Type} {en : α → PyData} {n : Nat} (h : ∀ a, (en a).depth ≤ n) : ∀ l : List α, PyData.depthAll (l.map en) ≤ n
  | [] => by simp [PyData.depthAll]
  | a :: l => by
    have h1 := h a
    have h2 := depth_all h l
    simp only [List.map_cons, PyData.depthAll]
    omega
theorem lay_of {d : PyData} (h1 : d.canLay0 = true) (h2 : d.depth ≤ 64) : Lay d := by
  show (d.canLay0 && decide (d.depth ≤ 64)) = true
  rw [h1, decide_eq_true h2] <;> rfl
theorem lay_tup {α : Type} {en : α → PyData} {n : Nat} (h1 : ∀ a, (en a).canLay0 = true) (h2 : ∀ a, (en a).depth ≤ n) (l : List α) (hn : n + 1 ≤ 64 := by decide) : Lay (.tuple (l.map en)) := by
  refine lay_of (by simp only [PyData.canLay0]; exact lay_all h1 l) ?_
  have := depth_all h2 l
  simp only [PyData.depth]
  omega
theorem eSpot_lay (s : Spot) : (eSpot s).canLay0 = true := by simp [eSpot, PyData.canLay0, PyData.canLayAll0]
theorem eSpot_dep (s : Spot) : (eSpot s).depth ≤ 1 := by simp [eSpot, PyData.depth, PyData.depthAll]
theorem eSpot_noB (s : Spot) : noB (eSpot s) = true := by simp [eSpot, noB, noB.noBs]
theorem eSpot_inj (s t : Spot) (h : eSpot s = eSpot t) : s = t := by
  unfold eSpot at h
  simp at h
  exact Prod.ext h.1 h.2
theorem ePair_lay (s : Pr) : (ePair s).canLay0 = true := by simp [ePair, PyData.canLay0, PyData.canLayAll0, eSpot_lay]
theorem ePair_dep (s : Pr) : (ePair s).depth ≤ 2 := by
  have := eSpot_dep s.1
  simp only [ePair, PyData.depth, PyData.depthAll]
  omega
theorem ePair_noB (s : Pr) : noB (ePair s) = true := by simp [ePair, noB, noB.noBs, eSpot_noB]
theorem ePair_inj (s t : Pr) (h : ePair s = ePair t) : s = t := by
  unfold ePair at h
  simp at h
  exact Prod.ext (eSpot_inj _ _ h.1) h.2
theorem eRow_lay (r : Row) : (eRow r).canLay0 = true := by
  simp only [eRow, PyData.canLay0]
  exact lay_all ePair_lay r
theorem eRow_dep (r : Row) : (eRow r).depth ≤ 3 := by
  have := depth_all ePair_dep r
  simp only [eRow, PyData.depth]
  omega
theorem eRow_noB (r : Row) : noB (eRow r) = true := by
  rw [eRow, noB]
  exact noBs_map ePair_noB r
theorem eRow_inj (s t : Row) (h : eRow s = eRow t) : s = t := by
  unfold eRow at h
  rw [PyData.tuple.injEq] at h
  exact map_inj ePair_inj _ _ h
theorem eForm_lay (f : List Row) : (eForm f).canLay0 = true := by
  simp only [eForm, PyData.canLay0]
  exact lay_all eRow_lay f
theorem eForm_dep (f : List Row) : (eForm f).depth ≤ 4 := by
  have := depth_all eRow_dep f
  simp only [eForm, PyData.depth]
  omega
theorem eForm_noB (f : List Row) : noB (eForm f) = true := by
  rw [eForm, noB]
  exact noBs_map eRow_noB f
theorem eForm_inj (s t : List Row) (h : eForm s = eForm t) : s = t := by
  unfold eForm at h
  rw [PyData.tuple.injEq] at h
  exact map_inj eRow_inj _ _ h
theorem spot_eqv (s t : Spot) : PyData.eqv (eSpot s) (eSpot t) = decide (s = t) := eqv_dec eSpot_noB eSpot_inj s t
theorem row_eqv (s t : Row) : PyData.eqv (eRow s) (eRow t) = decide (s = t) := eqv_dec eRow_noB eRow_inj s t
theorem form_eqv (s t : List Row) : PyData.eqv (eForm s) (eForm t) = decide (s = t) := eqv_dec eForm_noB eForm_inj s t
theorem spot_Lay (s : Spot) : Lay (eSpot s) := lay_of (eSpot_lay s) (by have := eSpot_dep s; omega)
theorem row_Lay (s : Row) : Lay (eRow s) := lay_of (eRow_lay s) (by have := eRow_dep s; omega)
theorem form_Lay (s : List Row) : Lay (eForm s) := lay_of (eForm_lay s) (by have := eForm_dep s; omega)
theorem spots_Lay (l : List Spot) : Lay (.tuple (l.map eSpot)) := lay_tup eSpot_lay eSpot_dep l
theorem any_spot (l : List Spot) (s : Spot) : ((l.map eSpot).any fun z => PyData.eqv z (eSpot s)) = l.contains s := by
  induction l with
  | nil => rfl
  | cons a l ih =>
    rw [List.map_cons, List.any_cons, ih, spot_eqv, List.contains_cons]
    congr 1
    rw [Bool.eq_iff_iff, decide_eq_true_iff, beq_iff_eq]
    exact eq_comm
end Sk
set_option maxHeartbeats 4000000
/-! SkG: sorted(..) of a list of data; the order. -/
namespace Sk
open PySem PySem.Spec PyProof.Rows L2 PySem.W

/-! ### the order -/
theorem tri_lex : ∀ a b : List (Int ⊕ List Nat), lexLt itemOrd a b = false → lexLt itemOrd b a = false → a = b
  | [], [], _, _ => rfl
  | [], _ :: _, h, _ => by simp [PyProof.Rows.lexLt] at h
  | _ :: _, [], _, h => by simp [PyProof.Rows.lexLt] at h
  | x :: r, y :: t, h1, h2 => by
    by_cases e : x = y
    · subst e
      rw [lex_self] at h1 h2
      rw [tri_lex r t h1 h2]
    · rw [lex_diff e] at h1
      rw [lex_diff (Ne.symm e)] at h2
      exact absurd (itemOrd.total x y h1 h2) e
theorem anti_data {x y : PyData} (ha : alike x y = true) (h1 : dataLt x y = false) (h2 : dataLt y x = false) : PyData.eqv x y = true := by
  have e := tri_lex _ _ h1 h2
  cases q : PyData.eqv x y with
  | true => rfl
  | false =>
    have k := (toks_eqv x y ha).2 q
    have k1 := k [] [Sum.inl 0]
    have k2 := k [] []
    rw [e] at k1 k2
    rw [← k2] at k1
    rw [lex_pre, lex_pre] at k1
    simp [PyProof.Rows.lexLt] at k1
section
variable {α : Type}
/-- x before y or the same -/
def dle (en : α → PyData) : α → α → Bool := dataLe false en
theorem dle_total (en : α → PyData) : TotalLe (dle en) := sortLe_total (listOrd itemOrd) false fun b => keyToks (en b)
theorem dle_anti {en : α → PyData} {x y : α} (ha : alike (en x) (en y) = true) (h1 : dle en x y = true) (h2 : dle en y x = true) : PyData.eqv (en x) (en y) = true := by
  have e1 : (!dataLt (en y) (en x)) = true := h1
  have e2 : (!dataLt (en x) (en y)) = true := h2
  rw [Bool.not_eq_true'] at e1 e2
  exact anti_data ha e2 e1
/-- the sorted list -/
def dsort (en : α → PyData) (l : List α) : List α := l.mergeSort (dle en)
theorem dsort_perm (en : α → PyData) (l : List α) : (dsort en l).Perm l := List.mergeSort_perm _ _
theorem dsort_sorted (en : α → PyData) (l : List α) : (dsort en l).Pairwise (fun a b => dle en a b = true) := sort_pairwise (dle_total en) l
/-- a kind of data: alike, == is =, within the shapes -/
structure Kind (en : α → PyData) : Prop where
  alike : ∀ a b, PySem.W.alike (en a) (en b) = true
  noB : ∀ a, Sk.noB (en a) = true
  inj : ∀ a b, en a = en b → a = b
  lay : ∀ a, (en a).canLay0 = true
  dep : ∀ a, (en a).depth ≤ 8
theorem Kind.anti {en : α → PyData} (k : Kind en) {x y : α} (h1 : dle en x y = true) (h2 : dle en y x = true) : x = y :=
  k.inj _ _ ((eqv_iff (k.noB x) (k.noB y)).mp (dle_anti (k.alike x y) h1 h2))
/-- sorted lists that are arrangements of one another are one -/
theorem Kind.unique {en : α → PyData} (k : Kind en) {l m : List α} (h1 : l.Pairwise (fun a b => dle en a b = true)) (h2 : m.Pairwise (fun a b => dle en a b = true)) (p : l.Perm m) : l = m :=
  List.Perm.eq_of_pairwise (le := fun a b => dle en a b = true) (fun a b _ _ x y => k.anti x y) h1 h2 p
theorem Kind.dsort_eq {en : α → PyData} (k : Kind en) {l m : List α} (p : l.Perm m) : dsort en l = dsort en m :=
  k.unique (dsort_sorted en l) (dsort_sorted en m) ((dsort_perm en l).trans (p.trans (dsort_perm en m).symm))
end

/-! ### sorted(xs) -/
mutual
theorem Da.dpS {K : PySem.W.Frag} {G H : Hp} (e : Same G H) : ∀ {v : V} {d : PyData}, d.canLay0 = true → Da G v d → Dp K H v d
  | _, _, _, .non => .non
  | _, _, _, .bl b => .bl b
  | _, _, _, .int i => .int i
  | _, _, _, .str x => .str x
  | _, _, f, .tup h hs => .tup (.inl (rd_mono e h.rd)) (Das.dpS e (by simpa [PyData.canLay0] using f) hs)
  | _, _, f, .lst h hs => .lst (.inl (.inl (e _ _ h))) (Das.dpS e (by simpa [PyData.canLay0] using f) hs)
  | _, _, f, .dct h => by simp [PyData.canLay0] at f
theorem Das.dpS {K : PySem.W.Frag} {G H : Hp} (e : Same G H) : ∀ {vs : List V} {ds : List PyData}, PyData.canLayAll0 ds = true → Das G vs ds → DpAll K H vs ds
  | _, _, _, .nil => .nil
  | _, _, f, .cons h hs => by
    simp only [PyData.canLayAll0, Bool.and_eq_true] at f
    exact .cons (Da.dpS e f.1 h) (Das.dpS e f.2 hs)
end
section
variable {α : Type} {X : Cx} {pins : List (Addr × Obj)} {σ : L2.St} {H G : Hp} {s : Shared}
/-- v is a value whose datum is en b -/
def Bears (G : Hp) (en : α → PyData) (v : Value) (b : α) : Prop := ∃ x : V, RelV x v ∧ Da G x (en b)
theorem bears_of {en : α → PyData} : ∀ {xs : List V} {us : List Value} {ys : List α}, Vals xs us → Das G xs (ys.map en) → EachIs (Bears G en) us ys
  | _, _, [], .nil, .nil => .nil
  | _, _, y :: ys, .cons r t, .cons h hs => .cons ⟨_, r, h⟩ (bears_of t hs)
theorem of_bears {en : α → PyData} : ∀ {us : List Value} {ys : List α}, EachIs (Bears G en) us ys → ∃ xs, Vals xs us ∧ Das G xs (ys.map en)
  | _, _, .nil => ⟨[], .nil, .nil⟩
  | _, _, .cons ⟨x, r, h⟩ t =>
    let ⟨xs, t1, t2⟩ := of_bears t
    ⟨x :: xs, .cons r t1, .cons h t2⟩
theorem reads_of (I : L2.Inv X pins σ H s) (e : Same G H) {en : α → PyData} (hl : ∀ a, (en a).canLay0 = true) {us : List Value} {ys : List α} (h : EachIs (Bears G en) us ys) : EachIs (fun v b => ∃ as, Reads s.heap v (en b) as) us ys :=
  h.mono fun v b ⟨x, r, d⟩ => Dp.reads I (en b) x v (d.dpS e (hl b)) r
def rSortedG (G : Hp) (en : α → PyData) (ys : List α) : List V → Hp → VK → Prop := fun vs H Q => ∃ (a : Addr) (xs : List V), vs = [V.ref a] ∧ H a = some (.lst xs) ∧ Das G xs (ys.map en) ∧ Same G H ∧
  ∀ xs' p, Das G xs' ((dsort en ys).map en) → H p = none → Q (.ref p) (upd H p (.lst xs'))
theorem cr_sortedG {en : α → PyData} {ys : List α} (k : Kind en) (hs : Sortable (ys.map en)) (hu : X.A.units + 65 < cLine) : CallR X (.builtin "sorted") (rSortedG G en ys) := by
  intro pins s σ H vs us Q I r h
  obtain ⟨a, xs, rfl, ha, hd, e, q⟩ := h
  obtain ⟨its, rv, hl, hz⟩ := I.list (SqL.of (K := X.K) ha)
  rw [Vals.ref1 r]
  have eb := bears_of rv hd
  have hlen : ys.length ≤ sizeLine := by
    have := hd.length
    rw [List.length_map] at this
    omega
  refine sorted_data hl.isList eb (reads_of I e k.lay eb) (AllAlike.of k.alike) hs hlen (fun b _ => by have := k.dep b; omega) fun out ho eo => ?_
  obtain ⟨xs', v1, v2⟩ := of_bears eo
  obtain ⟨ep, he'⟩ := PyProof.Rows.sortedAll_at s.heap its out.toArray
  have hl' : xs'.length ≤ sizeLine := by rw [v1.length, ho]; exact hlen
  exact ⟨.ref _, upd H (s.heap.objs.size + 1) (.lst xs'), I.laid (t' := s.toks) (fun _ _ => PyProof.Rows.sortedAll_old) (Nat.le_succ _) ⟨hl', out, ep, v1, he'⟩, rfl, q xs' _ v2 (I.hok.fresh (Nat.le_succ _))⟩
end
section
variable {P : Program} {w : World} {K : PySem.W.Frag} {mg : Str → Option Value} {base : Heap} {k : Nat} {N : List Str} {sc own : Scope} {X : Cx} {T : Dom} {ρ ρ' : List (Option PyData)} {pos : Pos}
theorem e_sorted (C : At P w K mg base k N sc own X) (B : Bt mg) {p : Pos} {a : Expr} {α : Type} {en : α → PyData} {ys : List α} (kd : Kind en) (hs : Sortable (ys.map en)) (ha : E X T ρ a (.list (ys.map en))) (hx : globOk sc "sorted" = true := by decide +kernel) (hp : plainE a = true := by rfl) :
    E X T ρ (.Call (.Name "sorted" p) [a] [] pos) (.list ((dsort en ys).map en)) := fun σ H Q ok q pins s I => by
  have hp' : [a].all plainE = true := by rw [List.all_cons, hp]; rfl
  -- the hidden part is fixed at the call
  refine (to_we (Q := Q) (PE.mk (t := fun σ H Q => wa X [a] σ H fun vs H1 => rSortedG (hid T H1) en ys vs H1 Q) fun pins s σ H Q I h => ?_) (one ha ok hp fun v H' e hv => ?_)) pins s I
  · refine wpAny_Call_Name_kw (ld_blt I (C.gl hx) (by rw [C.emg]; exact B.sorted) (by decide +kernel : bootBuiltins "sorted" = some (.builtin "sorted")) ?_ (globOk.ok hx).2.2 (globOk.ok hx).2.1)
    exact PyProof.Rows.callWith_builtin1 (thn (h pos pins s I) fun us s1 ⟨vs, H1, I1, r1, q1⟩ => cr_sortedG kd hs C.units pins s1 σ H1 vs us Q I1 r1 q1) (star_plain hp) (back_plain (es := []) rfl)
  · obtain ⟨b, vs, rfl, h2, h3⟩ := hv.lst_inv
    exact ⟨b, vs, rfl, hid_le _ _ h2, h3, hid_le, fun xs' l h4 nl => q _ _ (same_new2 e nl) (.lst (hid_new (ok.1.mono e) nl) (h4.mono (same_hid (same_new nl))))⟩
end
/-! ### the kinds -/
theorem alike_ints (i j : Int) : PySem.W.alike (.int i) (.int j) = true := by simp [PySem.W.alike]
theorem kind_int : Kind PyData.int := ⟨fun a b => alike_ints a b, fun _ => rfl, fun a b h => PyData.int.inj h, fun _ => rfl, fun _ => by simp [PyData.depth]⟩
theorem alike_spot (a b : Spot) : PySem.W.alike (eSpot a) (eSpot b) = true := by simp [eSpot, PySem.W.alike, PySem.W.alikeAll]
theorem kind_spot : Kind eSpot := ⟨alike_spot, eSpot_noB, eSpot_inj, eSpot_lay, fun a => by have := eSpot_dep a; omega⟩
theorem alike_pair (a b : Pr) : PySem.W.alike (ePair a) (ePair b) = true := by simp [ePair, PySem.W.alike, PySem.W.alikeAll, alike_spot]
theorem kind_pair : Kind ePair := ⟨alike_pair, ePair_noB, ePair_inj, ePair_lay, fun a => by have := ePair_dep a; omega⟩
theorem alike_maps {α : Type} {en : α → PyData} (h : ∀ a b, PySem.W.alike (en a) (en b) = true) : ∀ l m : List α, PySem.W.alikeAll (l.map en) (m.map en) = true
  | [], [] => by simp [PySem.W.alikeAll]
  | [], _ :: _ => by simp [PySem.W.alikeAll]
  | _ :: _, [] => by simp [PySem.W.alikeAll]
  | a :: l, b :: m => by rw [List.map_cons, List.map_cons, PySem.W.alikeAll, h a b, alike_maps h l m]; rfl
theorem alike_row (a b : Row) : PySem.W.alike (eRow a) (eRow b) = true := by
  rw [eRow, eRow, PySem.W.alike]
  exact alike_maps alike_pair a b
theorem kind_row : Kind eRow := ⟨alike_row, eRow_noB, eRow_inj, eRow_lay, fun a => by have := eRow_dep a; omega⟩
theorem sortable_int (l : List Int) : Sortable (l.map PyData.int) := Sortable.others fun b => ⟨fun e => by simp at e, fun xs e => by simp at e⟩
theorem sortable_spot (l : List Spot) : Sortable (l.map eSpot) := Sortable.tuples fun b => ⟨_, _, rfl⟩
theorem sortable_pair (l : List Pr) : Sortable (l.map ePair) := Sortable.tuples fun b => ⟨_, _, rfl⟩
theorem sortable_row (l : List Row) (h : ∀ r ∈ l, r ≠ []) : Sortable (l.map eRow) := .inl fun d hd => by
  obtain ⟨r, hr, rfl⟩ := List.mem_map.mp hd
  cases r with
  | nil => exact absurd rfl (h [] hr)
  | cons p r => exact ⟨_, _, rfl⟩
end Sk
set_option maxHeartbeats 4000000
/-! SkH: sets whose members are nested tuples of ints, over the set-table theory of HandS.TupSets. -/
namespace Sk
open PySem PySem.Spec PyProof.Rows L2

/-! ### keys -/
/-- a key of ints and tuples alone -/
def bareK : NestedKey → Bool
  | .num _ => true
  | .tup ks => bareKs ks
  | _ => false
where bareKs : List NestedKey → Bool
  | [] => true
  | k :: ks => bareK k && bareKs ks
/-- the nested key k stands at b -/
structure KeyAt (h : Heap) (k : NestedKey) (b : Addr) : Prop where
  is : NestedIs h k (.ref b)
  dep : k.depth ≤ 8
  bare : bareK k = true
abbrev kh (w : World) (k : NestedKey) : Int := k.hash w
abbrev HK := Addr × NestedKey
theorem KeyAt.keep {h h' : Heap} {k : NestedKey} {b : Addr} (x : KeyAt h k b) (e : ∀ c o, h.get? c = some o → h'.get? c = some o) : KeyAt h' k b := ⟨x.is.at (fun a o vs n g _ => e a o g), x.dep, x.bare⟩
/-- a set's change leaves the tuples -/
theorem KeyAt.past {h h' : Heap} {k : NestedKey} {a b : Addr} {o : Obj} {rows : Array (Int × Value)} {ep : Nat} {t : SetTable} (x : KeyAt h k b) (ho : h.get? a = some o) (hd : o.data = .set rows ep t) (hs : Heap.SameBut a h h') : KeyAt h' k b :=
  ⟨x.is.at (fun c u vs n g d => (hs.2 c (fun e => by rw [e, ho] at g; cases g; rw [hd] at d; cases d)).trans g), x.dep, x.bare⟩
theorem KeyAt.one {h : Heap} {k k' : NestedKey} {b : Addr} (x : KeyAt h k b) (y : KeyAt h k' b) : k = k' := NestedIs.inj _ _ _ x.is y.is

section
variable {P : Program} {w : World} {A : Around} {E : Value → Shared → Prop} {s : Shared}
mutual
theorem noClass : ∀ (k : NestedKey) (v : Value) (n : Nat) (s : Shared) (Q : Bool → Shared → Prop), NestedIs s.heap k v → bareK k = true → k.depth ≤ n → Q false s → wpAny (model P w) A (ofAClassStatement n v) Q E s
  | .num i, _, n, s, Q, x, _, _, q => by
    cases x <;> (cases n <;> exact wpAny_pure q)
  | .tup ks, _, n, s, Q, x, hb, hn, q => by
    cases x with
    | tup hg hc hd hk =>
      simp only [NestedKey.depth] at hn
      cases n with
      | zero => omega
      | succ n =>
        unfold ofAClassStatement
        refine wpAny_bind (wpAny_typeOf (T := "tuple") ⟨_, hg, hc⟩ ?_)
        dsimp only
        rw [show (("tuple" : String) == "tuple") = true by decide]
        simp only [if_true, Bool.not_true, Bool.false_eq_true, if_false]
        try refine wpAny_bind (wpAny_pure ?_)
        try simp only [Bool.not_true, Bool.false_eq_true, if_false]
        refine wpAny_bind (wpAny_seqItems hg hd ?_)
        dsimp only
        refine wpAny_bind ?_
        rw [← Array.forIn_toList]
        refine wpAny_forIn_list _ (fun rest r s' => r.1 = none ∧ s' = s ∧ ∃ ks', NestedAll s.heap ks' rest ∧ bareK.bareKs ks' = true ∧ NestedKey.depthAll ks' ≤ n ∧ ∀ v ∈ rest, ∀ Q : Bool → Shared → Prop, Q false s → wpAny (model P w) A (ofAClassStatement n v) Q E s) _ ?_ ?_ _ _ ⟨rfl, rfl, ks, hk, by simpa [bareK] using hb, by omega, noClasses ks _ n s hk (by simpa [bareK] using hb) (by omega)⟩
        · rintro v rest r s' ⟨hr, rfl, ks', h1, h2, h3, all⟩
          refine wpAny_bind (all v List.mem_cons_self _ ?_)
          simp only [Bool.false_eq_true, if_false]
          cases h1 with
          | cons a1 a2 =>
            rw [bareK.bareKs, Bool.and_eq_true] at h2
            simp only [NestedKey.depthAll] at h3
            exact wpAny_pure ⟨rfl, rfl, _, a2, h2.2, by omega, fun u hu => all u (List.mem_cons_of_mem _ hu)⟩
        · rintro ⟨r1, r2⟩ s' ⟨hr, rfl, _⟩
          simp only at hr
          subst hr
          exact wpAny_pure q
  | .none, _, _, _, _, _, hb, _, _ => by simp [bareK] at hb
  | .text _, _, _, _, _, _, hb, _, _ => by simp [bareK] at hb
theorem noClasses : ∀ (ks : List NestedKey) (vs : List Value) (n : Nat) (s : Shared), NestedAll s.heap ks vs → bareK.bareKs ks = true → NestedKey.depthAll ks ≤ n → ∀ v ∈ vs, ∀ Q : Bool → Shared → Prop, Q false s → wpAny (model P w) A (ofAClassStatement n v) Q E s
  | [], _, n, s, x, _, _, v, hv, _, _ => by cases x; cases hv
  | k :: ks, _, n, s, x, hb, hn, v, hv, Q, q => by
    cases x with
    | cons x1 x2 =>
      rw [bareK.bareKs, Bool.and_eq_true] at hb
      simp only [NestedKey.depthAll] at hn
      rcases List.mem_cons.mp hv with e | hv
      · rw [e]; exact noClass k _ n s Q x1 hb.1 (by omega) q
      · exact noClasses ks _ n s x2 hb.2 (by omega) v hv Q q
end
mutual
theorem byVal : ∀ (k : NestedKey) (v : Value) (n : Nat) (s : Shared) (Q : Bool → Shared → Prop), NestedIs s.heap k v → bareK k = true → k.depth ≤ n → Q true s → wpAny (model P w) A (hashByValue n v) Q E s
  | .num i, _, n, s, Q, x, _, _, q => by
    cases x <;> (cases n <;> exact wpAny_pure q)
  | .tup ks, _, n, s, Q, x, hb, hn, q => by
    cases x with
    | tup hg hc hd hk =>
      simp only [NestedKey.depth] at hn
      cases n with
      | zero => omega
      | succ n =>
        unfold hashByValue
        refine wpAny_bind (wpAny_specialOf (T := "tuple") ⟨_, hg, hc⟩ F.slot_tuple_hash.lookup ?_)
        show wpAny _ _ (seqItems? (.ref _) >>= _) _ _ s
        refine wpAny_bind (wpAny_seqItems hg hd ?_)
        refine wpAny_bind ?_
        show wpAny _ _ (forIn _ _ _) _ _ s
        rw [← Array.forIn_toList]
        refine wpAny_forIn_list _ (fun rest r s' => r.1 = none ∧ s' = s ∧ ∀ v ∈ rest, ∀ Q : Bool → Shared → Prop, Q true s → wpAny (model P w) A (hashByValue n v) Q E s) _ ?_ ?_ _ _ ⟨rfl, rfl, byVals ks _ n s hk (by simpa [bareK] using hb) (by omega)⟩
        · rintro v rest r s' ⟨hr, rfl, all⟩
          refine wpAny_bind (all v List.mem_cons_self _ ?_)
          simp only [Bool.not_true, Bool.false_eq_true, if_false]
          exact wpAny_pure ⟨rfl, rfl, fun u hu => all u (List.mem_cons_of_mem _ hu)⟩
        · rintro ⟨r1, r2⟩ s' ⟨hr, rfl, _⟩
          simp only at hr
          subst hr
          exact wpAny_pure q
  | .none, _, _, _, _, _, hb, _, _ => by simp [bareK] at hb
  | .text _, _, _, _, _, _, hb, _, _ => by simp [bareK] at hb
theorem byVals : ∀ (ks : List NestedKey) (vs : List Value) (n : Nat) (s : Shared), NestedAll s.heap ks vs → bareK.bareKs ks = true → NestedKey.depthAll ks ≤ n → ∀ v ∈ vs, ∀ Q : Bool → Shared → Prop, Q true s → wpAny (model P w) A (hashByValue n v) Q E s
  | [], _, n, s, x, _, _, v, hv, _, _ => by cases x; cases hv
  | k :: ks, _, n, s, x, hb, hn, v, hv, Q, q => by
    cases x with
    | cons x1 x2 =>
      rw [bareK.bareKs, Bool.and_eq_true] at hb
      simp only [NestedKey.depthAll] at hn
      rcases List.mem_cons.mp hv with e | hv
      · rw [e]; exact byVal k _ n s Q x1 hb.1 (by omega) q
      · exact byVals ks _ n s x2 hb.2 (by omega) v hv Q q
end
theorem KeyAt.noClass {k : NestedKey} {b : Addr} {Q : Bool → Shared → Prop} (x : KeyAt s.heap k b) (q : Q false s) : wpAny (model P w) A (ofAClassStatement 8 (.ref b)) Q E s := Sk.noClass k _ 8 s Q x.is x.bare x.dep q
theorem KeyAt.byVal {k : NestedKey} {b : Addr} {Q : Bool → Shared → Prop} (x : KeyAt s.heap k b) (q : Q true s) : wpAny (model P w) A (hashByValue 8 (.ref b)) Q E s := Sk.byVal k _ 8 s Q x.is x.bare x.dep q
theorem KeyAt.hash {k : NestedKey} {b : Addr} {Q : Int → Shared → Prop} (x : KeyAt s.heap k b) (hu : A.units + 8 < cLine) (q : Q (kh w k) { s with toks := s.toks + k.draws }) : wpAny (model P w) A (pyHash (.ref b)) Q E s :=
  (nestedKind P w).pyHash (show (nestedKind P w).room A from hu) (show (nestedKind P w).is s.heap k b from ⟨x.is, x.dep⟩) q
theorem KeyAt.eq {k k' : NestedKey} {b c : Addr} {Q : Bool → Shared → Prop} (x : KeyAt s.heap k b) (y : KeyAt s.heap k' c) (hu : A.units + 8 < cLine) (q : Q (decide (k = k')) s) : wpAny (model P w) A (eqBool (.ref b) (.ref c)) Q E s :=
  (nestedKind P w).eqBool (show (nestedKind P w).room A from hu) (show (nestedKind P w).is s.heap k b from ⟨x.is, x.dep⟩) (show (nestedKind P w).is s.heap k' c from ⟨y.is, y.dep⟩) q
theorem KeyAt.quiet {k : NestedKey} {b : Addr} {Q : Bool → Shared → Prop} (x : KeyAt s.heap k b) (q : Q true s) : wpAny (model P w) A (eqIsQuiet 8 (.ref b)) Q E s :=
  (nestedKind P w).quiet (show (nestedKind P w).is s.heap k b from ⟨x.is, x.dep⟩) q
/-- a search among such keys shows nothing -/
theorem unseen {k : NestedKey} {b : Addr} {Q : Bool → Shared → Prop} (x : KeyAt s.heap k b) {ys : List Value} (hy : ∀ y ∈ ys, ∃ k' c, y = Value.ref c ∧ KeyAt s.heap k' c) (q : Q false s) : wpAny (model P w) A (searchCouldBeSeen (.ref b) ys) Q E s := by
  unfold searchCouldBeSeen
  refine wpAny_bind ?_
  refine wpAny_forIn_list _ (fun rest r s' => r.1 = none ∧ s' = s ∧ ∀ y ∈ rest, ∃ k' c, y = Value.ref c ∧ KeyAt s.heap k' c) _ ?_ ?_ _ _ ⟨rfl, rfl, hy⟩
  · rintro v rest r s' ⟨hr, rfl, all⟩
    obtain ⟨k', c, rfl, hc⟩ := all v List.mem_cons_self
    have more : ∀ y ∈ rest, ∃ k' c, y = Value.ref c ∧ KeyAt s'.heap k' c := fun u hu => all u (List.mem_cons_of_mem _ hu)
    dsimp only
    by_cases z : (b == c || (carriedByValue (.ref b) && carriedByValue (.ref c))) = true
    · exact wp_if_pos z (wpAny_pure ⟨rfl, rfl, more⟩)
    · refine wp_if_neg z (wpAny_bind (x.quiet ?_))
      simp only [Bool.not_true, Bool.false_eq_true, if_false]
      refine wpAny_bind (hc.quiet ?_)
      simp only [Bool.not_true, Bool.false_eq_true, if_false]
      refine wpAny_bind (x.noClass ?_)
      simp only [Bool.false_eq_true, if_false]
      refine wpAny_bind (hc.noClass ?_)
      simp only [Bool.false_eq_true, if_false]
      exact wpAny_pure ⟨rfl, rfl, more⟩
  · rintro ⟨r1, r2⟩ s' ⟨hr, rfl, _⟩
    simp only at hr
    subst hr
    exact wpAny_pure q
end
end Sk
set_option maxHeartbeats 8000000
/-! SkI: a set of nested tuples: searching, adding, laying anew. -/
namespace Sk
open PySem PySem.Spec PyProof.Rows L2
section
variable {P : Program} {w : World} {A : Around} {E : Value → Shared → Prop} {s : Shared}
def entries (w : World) (L : List HK) : List (Int × Value) := L.map fun p => (kh w p.2, Value.ref p.1)
/-- at a stands the set of the keys L, in the table's order -/
structure KSet (w : World) (h : Heap) (a : Addr) (L : List HK) (rows : Array (Int × Value)) (ep : Nat) (t : SetTable) : Prop where
  obj : ∃ o, h.get? a = some o ∧ o.ExactSet ∧ o.data = .set rows ep t
  rows : rows.toList = entries w L
  tab : TabOk t (L.map fun p => kh w p.2)
  nd : (L.map (·.2)).Nodup
  key : ∀ p ∈ L, KeyAt h p.2 p.1
  plain : t.plain = true
  led : w.params.followText "set-order" = true ∨ t.led = true
  room : L.length * 5 < t.mask * 3
  few : L.length < 64
variable {a : Addr} {L : List HK} {rows : Array (Int × Value)} {ep : Nat} {t : SetTable}
theorem entries_len {rows : Array (Int × Value)} {L : List HK} (h : rows.toList = entries w L) : rows.size = L.length := by
  have q := congrArg List.length h
  rw [entries, Array.length_toList, List.length_map] at q
  exact q
theorem KSet.size (R : KSet w s.heap a L rows ep t) : rows.size = L.length := entries_len R.rows
theorem KSet.fits (R : KSet w s.heap a L rows ep t) : t.fits rows.size = true := by
  have e1 := R.tab.sz
  have e2 := R.size
  have e3 := R.room
  rw [List.length_map] at e1
  unfold SetTable.fits SetTable.fill
  rw [R.tab.dm, Bool.and_eq_true, beq_iff_eq, decide_eq_true_eq]
  show t.place.size = rows.size ∧ t.place.size + 0 ≤ t.mask
  omega
theorem KSet.entry (R : KSet w s.heap a L rows ep t) {i : Nat} {p : HK} (h : L[i]? = some p) : rows[i]? = some (kh w p.2, Value.ref p.1) := by
  rw [← Array.getElem?_toList, R.rows, entries, List.getElem?_map, h] <;> rfl
theorem KSet.stays (R : KSet w s.heap a L rows ep t) : ¬ t.gaveWay = true := by
  unfold SetTable.gaveWay
  rw [mask_odd R.tab.mok]
  decide
/-- the c-th place of a key's way -/
abbrev probeAt (m : Nat) (h : Int) (c : Nat) : SetTable.Probe := nth m (runAt m (SetTable.bits h % (m + 1)) (SetTable.bits h)) c
theorem probe_clean (m : Nat) (h : Int) : ∀ c, (probeAt m h c).dummy = none := by
  have step : ∀ (n : Nat) (p : SetTable.Probe), p.dummy = none → (nth m p n).dummy = none := by
    intro n
    induction n with
    | zero => exact fun p z => z
    | succ n ih =>
      intro p z
      refine ih (adv m p) ?_
      unfold adv
      split <;> exact z
  exact fun c => step c _ rfl
theorem probe_more (m : Nat) (h : Int) (c q : Nat) : nth m (probeAt m h c) q = probeAt m h (c + q) := (nth_add m c _ q).symm

/-- from the c-th place on: found, or the first free place -/
theorem seek (R : KSet w s.heap a L rows ep t) {x : Addr} {k : NestedKey} (hx : KeyAt s.heap k x) (hu : A.units + 8 < cLine) {F : Nat} (hF : F < 10 * SetTable.turns t.mask)
    (free : way t.mask (kh w k) F ∉ t.place.toList) (full : ∀ c, c < F → way t.mask (kh w k) c ∈ t.place.toList) {Q : SetFound → Shared → Prop}
    (yes : k ∈ L.map (·.2) → Q (.there none) s) (no : k ∉ L.map (·.2) → Q (.free (way t.mask (kh w k) F) false) s) :
    ∀ (n c : Nat) (stand : Option SetTable.Probe), stand.getD (t.probeStart (kh w k)) = probeAt t.mask (kh w k) c → c ≤ F → F - c < n →
      (∀ (i : Nat) p, L[i]? = some p → p.2 = k → ∃ c', c ≤ c' ∧ c' < F ∧ t.place.toList[i]? = some (way t.mask (kh w k) c')) →
      wpAny (model P w) A (setSearchFrom a (.ref x) (kh w k) true n stand) Q E s
  | 0, c, stand, _, _, z, _ => absurd z (Nat.not_lt_zero _)
  | n + 1, c, stand, at', hc, hn, ahead => by
    obtain ⟨o, ho, hex, hd⟩ := R.obj
    have hashes : ∀ (i : Nat) p, L[i]? = some p → (fun i => (rows[i]?.map (·.1)).getD 0) i = kh w p.2 := fun i p hp => by
      show (rows[i]?.map (·.1)).getD 0 = _
      rw [R.entry hp] <;> rfl
    have pl : ∀ q, (nth t.mask (probeAt t.mask (kh w k) c) q).j = way t.mask (kh w k) (c + q) := fun q => congrArg SetTable.Probe.j (probe_more _ _ c q)
    have eF : c + (F - c) = F := by omega
    have spec := go_spec t R.tab.ris R.tab.dm (fun i => (rows[i]?.map (·.1)).getD 0) (kh w k) (10 * SetTable.turns t.mask) (F - c) _ (probe_clean t.mask (kh w k) c) (by omega)
      (fun q hq => by rw [pl]; exact full (c + q) (by omega)) (by rw [pl, eF]; exact free)
    rw [setSearchFrom_succ]
    refine wpAny_bind (wpAny_setState_of ho hd R.fits ?_)
    dsimp only
    refine wp_if_neg R.stays ?_
    try refine wpAny_bind (wpAny_pure ?_)
    rcases spec with ⟨q, i, hq, hi, hh, hno, hpr⟩ | ⟨hno, hpr⟩
    · -- a member with this hash
      have met : t.probe (fun i => (rows[i]?.map (·.1)).getD 0) (kh w k) (stand.getD (t.probeStart (kh w k))) = some (.candidate (way t.mask (kh w k) (c + q)) i (probeAt t.mask (kh w k) (c + (q + 1)))) := by
        rw [at', ← pl, ← probe_more]
        exact hpr
      rw [met]
      dsimp only
      rw [pl] at hi
      have hil : i < L.length := by
        have z1 := (List.getElem?_eq_some_iff.mp hi).1
        have z2 := R.tab.sz
        rw [List.length_map] at z2
        rw [Array.length_toList] at z1
        omega
      obtain ⟨p, hp⟩ : ∃ p, L[i]? = some p := ⟨_, List.getElem?_eq_getElem hil⟩
      have hm : p ∈ L := List.mem_of_getElem? hp
      have hsl : t.slot (way t.mask (kh w k) (c + q)) = .live i := slot_live R.tab.ris hi
      have rest : wpAny (model P w) A (searchRest a (.ref x) (kh w k) true n rows t (way t.mask (kh w k) (c + q)) i (probeAt t.mask (kh w k) (c + (q + 1)))) Q E s := by
        unfold searchRest
        rw [R.entry hp]
        dsimp only
        refine wpAny_bind (wpAny_holding ((R.key p hm).eq hx hu ?_))
        refine wpAny_bind (wpAny_setState_of ho hd R.fits ?_)
        dsimp only
        by_cases same : p.2 = k
        · exact wp_if_pos (by simp [same]) (wpAny_pure (yes (List.mem_map.mpr ⟨p, hm, same⟩)))
        · refine wp_if_neg (by simp [same]) ?_
          try refine wpAny_bind (wpAny_pure ?_)
          rw [sameMem]
          dsimp only
          simp only [if_true, hsl, R.entry hp]
          refine wpAny_bind (wpAny_isSame_ref_self (wpAny_bind (wpAny_pure ?_)))
          simp only [if_true]
          refine wp_if_neg (by simp [same]) (seek R hx hu hF free full yes no n (c + (q + 1)) _ rfl (by omega) (by omega) fun i0 p0 h0 hk0 => ?_)
          obtain ⟨c', a1, a2, a3⟩ := ahead i0 p0 h0 hk0
          refine ⟨c', Nat.not_lt.mp fun (z : c' < c + (q + 1)) => ?_, a2, a3⟩
          rcases (show c' < c + q ∨ c' = c + q by omega) with z | z
          · exact hno (c' - c) i0 (by omega) (by rw [pl, show c + (c' - c) = c' by omega]; exact a3) ((hashes i0 p0 h0).trans (congrArg (kh w) hk0))
          · rw [z] at a3
            have s0 := slot_live R.tab.ris a3
            rw [hsl] at s0
            injection s0 with s0
            rw [← s0, hp] at h0
            exact same ((congrArg Prod.snd (Option.some.inj h0)).trans hk0)
      by_cases hl : t.led = true
      · refine wp_if_neg (by simp [hl]) ?_
        try refine wpAny_bind (wpAny_pure ?_)
        exact rest
      · refine wp_if_pos (by simp [hl]) (wpAny_bind (unseen hx (fun y hy => ?_) ?_))
        · obtain ⟨e, he, ee⟩ := List.mem_map.mp hy
          have he1 : e ∈ rows ∧ e.1 = kh w k := by simpa using he
          have he2 : e ∈ rows.toList := by simpa using he1.1
          rw [R.rows] at he2
          obtain ⟨p2, hp2, e2⟩ := List.mem_map.mp he2
          exact ⟨p2.2, p2.1, by rw [← ee, ← e2], R.key p2 hp2⟩
        · refine wp_if_neg (by decide) ?_
          try refine wpAny_bind (wpAny_pure ?_)
          exact rest
    · -- the free place
      have met : t.probe (fun i => (rows[i]?.map (·.1)).getD 0) (kh w k) (stand.getD (t.probeStart (kh w k))) = some (.empty (way t.mask (kh w k) F) none) := by
        rw [at', show way t.mask (kh w k) F = (nth t.mask (probeAt t.mask (kh w k) c) (F - c)).j by rw [pl, eF]]
        exact hpr
      rw [met]
      dsimp only
      refine wpAny_pure (no fun hm => ?_)
      obtain ⟨p0, h0, hk0⟩ := List.mem_map.mp hm
      obtain ⟨i0, hi0, e0⟩ := List.getElem_of_mem h0
      have h00 : L[i0]? = some p0 := by rw [List.getElem?_eq_getElem hi0, e0]
      obtain ⟨c', a1, a2, a3⟩ := ahead i0 p0 h00 hk0
      exact hno (c' - c) i0 (by omega) (by rw [pl, show c + (c' - c) = c' by omega]; exact a3) ((hashes i0 p0 h00).trans (congrArg (kh w) hk0))
theorem seek0 (R : KSet w s.heap a L rows ep t) {x : Addr} {k : NestedKey} (hx : KeyAt s.heap k x) (hu : A.units + 8 < cLine) {Q : SetFound → Shared → Prop} (yes : k ∈ L.map (·.2) → Q (.there none) s)
    (no : ∀ F, k ∉ L.map (·.2) → way t.mask (kh w k) F ∉ t.place.toList → (∀ c, c < F → way t.mask (kh w k) c ∈ t.place.toList) → Q (.free (way t.mask (kh w k) F) false) s) :
    wpAny (model P w) A (setSearch a (.ref x) (kh w k) true) Q E s := by
  have hr := R.room
  obtain ⟨F, hF, free, full⟩ := R.tab.first (by rw [List.length_map]; omega) (kh w k)
  have big : 10 * SetTable.turns t.mask ≤ 1420 := by
    unfold SetTable.turns
    rcases R.tab.mok with e | e | e <;> omega
  unfold setSearch
  refine seek R hx hu hF free full yes (fun z => no F z free full) 100000 0 none rfl (Nat.zero_le _) (by omega) fun i p hp hk => ?_
  have hil : i < t.place.toList.length := by
    have z1 := (List.getElem?_eq_some_iff.mp hp).1
    have z2 := R.tab.sz
    rw [List.length_map] at z2
    rw [Array.length_toList]
    omega
  have hj := List.getElem?_eq_getElem hil
  obtain ⟨c, hc, e⟩ := R.tab.before free (show (L.map fun p => kh w p.2)[i]? = some (kh w k) by rw [List.getElem?_map, hp, ← hk] <;> rfl) hj
  exact ⟨c, Nat.zero_le _, hc, by rw [hj, e]⟩

/-! ### laid anew -/
theorem reorder {L : List HK} {rows : Array (Int × Value)} (order : Array Nat) (hr : rows.toList = entries w L) (hp : order.toList.Perm (List.range L.length)) :
    ∃ M, (order.filterMap (rows[·]?)).toList = entries w M ∧ M.Perm L ∧ (M.map fun p => kh w p.2) = order.toList.map fun i => (rows.map (·.1)).getD i 0 := by
  have hz := entries_len hr
  have ent : ∀ i (h : i < L.length), rows[i]? = some (kh w (L[i]).2, Value.ref (L[i]).1) := fun i h => by
    rw [← Array.getElem?_toList, hr, entries, List.getElem?_map, List.getElem?_eq_getElem h] <;> rfl
  have all : ∀ l : List Nat, (∀ i ∈ l, i < L.length) → l.filterMap (fun i => rows[i]?) = entries w (l.filterMap fun i => L[i]?) ∧ ((l.filterMap fun i => L[i]?).map fun p => kh w p.2) = l.map fun i => (rows.map (·.1)).getD i 0 := by
    intro l
    induction l with
    | nil => exact fun _ => ⟨rfl, rfl⟩
    | cons i l ih =>
      intro hl
      have hi := hl i List.mem_cons_self
      obtain ⟨e1, e2⟩ := ih fun j hj => hl j (List.mem_cons_of_mem _ hj)
      rw [List.filterMap_cons_some (ent i hi), List.filterMap_cons_some (List.getElem?_eq_getElem hi), e1]
      refine ⟨rfl, ?_⟩
      rw [List.map_cons, List.map_cons, e2]
      have e5 : (rows.map (·.1))[i]? = some (kh w (L[i]).2) := by rw [Array.getElem?_map, ent i hi] <;> rfl
      rw [show (rows.map (·.1)).getD i 0 = kh w (L[i]).2 by simp [Array.getD_eq_getD_getElem?, e5]]
  obtain ⟨e1, e2⟩ := all order.toList fun i hi => List.mem_range.mp (hp.mem_iff.mp hi)
  refine ⟨_, by first | (rw [Array.toList_filterMap]; exact e1) | simpa using e1, ?_, e2⟩
  have back : (List.range L.length).filterMap (fun i => L[i]?) = L := by
    have part : ∀ n, n ≤ L.length → (List.range n).filterMap (fun i => L[i]?) = L.take n := by
      intro n
      induction n with
      | zero => exact fun _ => rfl
      | succ n ih =>
        intro hn
        have hlt : n < L.length := hn
        rw [List.range_succ, List.filterMap_append, ih (Nat.le_of_lt hlt), take_snoc (List.getElem?_eq_getElem hlt), List.filterMap_cons_some (List.getElem?_eq_getElem hlt)] <;> rfl
    rw [part L.length (Nat.le_refl _), List.take_length]
  have z := hp.filterMap (fun i => L[i]?)
  rw [back] at z
  exact z
theorem relay {o : Obj} (ho : s.heap.get? a = some o) (hex : o.ExactSet) (hd : o.data = .set rows ep t) (hrows : rows.toList = entries w L) (hsz : t.place.size = rows.size) (hdm : t.dummies = #[]) (hfl : rows.size ≤ t.mask)
    (nd : (L.map (·.2)).Nodup) (key : ∀ p ∈ L, KeyAt s.heap p.2 p.1) (pl : t.plain = true) (ld : w.params.followText "set-order" = true ∨ t.led = true) (few : L.length < 64) {wanted M : Nat}
    (hw : SetTable.sizeAbove wanted - 1 = M) (hM : MaskOk M) (hw2 : SetTable.sizeAbove wanted ≤ 128) (hn : L.length * 5 < M * 3) {Q : Unit → Shared → Prop}
    (q : ∀ h' L' rows' ep' t', Heap.SameBut a s.heap h' → KSet w h' a L' rows' ep' t' → L'.Perm L → Q () { s with heap := h' }) : wpAny (model P w) A (setRelay a wanted) Q E s := by
  have hsl := entries_len hrows
  have hfits : t.fits rows.size = true := by
    unfold SetTable.fits SetTable.fill
    rw [hdm, Bool.and_eq_true, beq_iff_eq, decide_eq_true_eq]
    show t.place.size = rows.size ∧ t.place.size + 0 ≤ t.mask
    omega
  obtain ⟨t', order, e, hp, tab, em, el, epl, ed⟩ := relaid_ok t (hs := rows.map (·.1)) (wanted := wanted) hw hM (by rw [Array.size_map, hsl]; omega)
  rw [Array.size_map, hsl] at hp
  obtain ⟨L2, r1, r2, r3⟩ := reorder order hrows hp
  rw [← r3] at tab
  have hs2 : (order.filterMap (rows[·]?)).size = rows.size := by rw [entries_len r1, r2.length_eq, hsl]
  rw [setRelay_eq]
  refine wpAny_bind (wpAny_setState_of ho hd hfits ?_)
  dsimp only
  refine wp_if_neg (by rw [sizeLine_eq]; omega) ?_
  try refine wpAny_bind (wpAny_pure ?_)
  rw [e]
  dsimp only
  refine wpAny_bind (wp_if_neg (by rw [hs2]; simp) ?_)
  try refine wpAny_bind (wpAny_pure ?_)
  refine wpAny_pure ?_
  dsimp only
  refine wpAny_storeSet_of ho hd ?_ (by rw [hs2, hsl, sizeLine_eq]; omega)
  have sb : Heap.SameBut a s.heap (s.heap.update a (Obj.putSet (order.filterMap (rows[·]?)) t')) := Heap.SameBut.update ..
  refine q _ L2 (order.filterMap (rows[·]?)) (ep + 1) t' sb ⟨⟨_, store_at ho hd, ⟨hex.1, hex.2.1, hex.2.2⟩, rfl⟩, r1, tab, (r2.map (·.2)).nodup_iff.mpr nd, fun p hpm => (key p (r2.mem_iff.mp hpm)).past ho hd sb, by rw [epl]; exact pl, by rw [el]; exact ld, ?_, by rw [r2.length_eq]; exact few⟩ r2
  rw [r2.length_eq, em]
  exact hn

/-! ### adding -/
theorem add_key (R : KSet w s.heap a L rows ep t) {x : Addr} {k : NestedKey} (hx : KeyAt s.heap k x) (hu : A.units + 8 < cLine) (hfew : k ∉ L.map (·.2) → L.length + 1 < 64) {Q : Bool → Shared → Prop}
    (q : ∀ b h' L' rows' ep' t', Heap.SameBut a s.heap h' → KSet w h' a L' rows' ep' t' → (k ∈ L.map (·.2) → L' = L) → (k ∉ L.map (·.2) → L'.Perm ((x, k) :: L)) → Q b { s with heap := h' }) :
    wpAny (model P w) A (setAddHashed a (.ref x) (kh w k)) Q E s := by
  obtain ⟨o, ho, hex, hd⟩ := R.obj
  have hsl := R.size
  have hroom := R.room
  unfold setAddHashed
  refine wpAny_holding ?_
  rw [show (100000 : Nat) = 99999 + 1 from rfl, setAddHashedIn_succ]
  refine wpAny_bind (wpAny_setState_of ho hd R.fits ?_)
  dsimp only
  refine wp_if_neg (by simp [byScan, Value.scannable]) ?_
  try refine wpAny_bind (wpAny_pure ?_)
  refine wpAny_bind (seek0 R hx hu (fun hm => ?_) fun F hm free full => ?_)
  · dsimp only
    exact wpAny_pure (q false s.heap L rows ep t (Heap.SameBut.refl a s.heap) R (fun _ => rfl) fun z => absurd hm z)
  · have hfew := hfew hm
    dsimp only
    refine wpAny_bind (wpAny_setState_of ho hd R.fits ?_)
    dsimp only
    obtain ⟨q1, q2, q3, q4, q5, q6, q7, q8, q9⟩ := R.tab.put free full
    have hp1 : (t.put (way t.mask (kh w k) F)).1.plain = true := by rw [q6]; exact R.plain
    generalize hpt : t.put (way t.mask (kh w k) F) = pt at q1 q3 q4 q5 q6 q7 q8 q9 hp1 ⊢
    obtain ⟨t1, pl⟩ := pt
    dsimp only at q1 q3 q4 q5 q6 q7 q8 q9 hp1 ⊢
    subst q1
    first
      | (refine wpAny_bind ?_; refine wp_if_pos hp1 ?_; refine hx.byVal ?_)
      | refine wp_if_pos hp1 (wpAny_bind (hx.byVal ?_))
    simp only [if_true]
    generalize hpp : SetTable.below t.place (way t.mask (kh w k) F) = pl at q2 q3 ⊢
    have hin : (SetTable.insertAt rows pl (kh w k, Value.ref x)).toList = entries w (L.take pl ++ (x, k) :: L.drop pl) := by
      rw [SetTable.toList_insertAt, R.rows]
      simp only [entries, List.map_append, List.map_cons, List.map_take, List.map_drop]
    have pm : (L.take pl ++ (x, k) :: L.drop pl).Perm ((x, k) :: L) := by
      have z := List.perm_middle (a := (x, k)) (l₁ := L.take pl) (l₂ := L.drop pl)
      rw [List.take_append_drop] at z
      exact z
    have hhs : (L.take pl ++ (x, k) :: L.drop pl).map (fun p => kh w p.2) = (L.map fun p => kh w p.2).take pl ++ kh w k :: (L.map fun p => kh w p.2).drop pl := by
      rw [List.map_append, List.map_cons, List.map_take, List.map_drop]
    rw [← hhs] at q3
    have nd1 : ((L.take pl ++ (x, k) :: L.drop pl).map (·.2)).Nodup := (pm.map (·.2)).nodup_iff.mpr (by rw [List.map_cons]; exact List.nodup_cons.mpr ⟨hm, R.nd⟩)
    have hes := entries_len hin
    have hlen : (L.take pl ++ (x, k) :: L.drop pl).length = L.length + 1 := pm.length_eq
    rw [hlen] at hes
    generalize SetTable.insertAt rows pl (kh w k, Value.ref x) = rows1 at hin hes ⊢
    generalize L.take pl ++ (x, k) :: L.drop pl = L1 at pm hlen q3 nd1 hin
    refine wpAny_bind (wpAny_storeSet_of ho hd ?_ (by rw [hes, sizeLine_eq]; omega))
    have sb : Heap.SameBut a s.heap (s.heap.update a (Obj.putSet rows1 t1)) := Heap.SameBut.update ..
    have ho1 := store_at (es' := rows1) (t' := t1) ho hd
    generalize s.heap.update a (Obj.putSet rows1 t1) = h1 at sb ho1 ⊢
    have key1 : ∀ p ∈ L1, KeyAt h1 p.2 p.1 := fun p hp => by
      rcases List.mem_cons.mp (pm.mem_iff.mp hp) with e | hp
      · rw [e]; exact hx.past ho hd sb
      · exact (R.key p hp).past ho hd sb
    have ld1 : w.params.followText "set-order" = true ∨ t1.led = true := by rw [q5]; exact R.led
    have few1 : L1.length < 64 := by rw [hlen]; exact hfew
    by_cases hf : t1.tooFull = true
    · first
        | (refine wpAny_bind ?_; refine wp_if_pos (by simp [hf]) ?_)
        | (refine wp_if_pos (by simp [hf]) ?_; refine wpAny_bind ?_)
      have hfull : (L.length + 1) * 5 ≥ t1.mask * 3 := by
        have z := hf
        unfold SetTable.tooFull at z
        rw [decide_eq_true_eq, q9, List.length_map] at z
        exact z
      rw [hsl]
      have hsz1 : t1.place.size = rows1.size := by
        have z := q3.sz
        rw [List.length_map, hlen] at z
        rw [z, hes]
      have two : (t.mask = 7 ∧ L.length = 4) ∨ (t.mask = 31 ∧ L.length = 18) := by
        rcases R.tab.mok with e | e | e
        · left; rw [q4, e] at hfull; rw [e] at hroom; exact ⟨e, by omega⟩
        · right; rw [q4, e] at hfull; rw [e] at hroom; exact ⟨e, by omega⟩
        · exfalso; rw [q4, e] at hfull; omega
      have go : ∀ M, SetTable.sizeAbove (SetTable.grown (L.length + 1)) - 1 = M → MaskOk M → SetTable.sizeAbove (SetTable.grown (L.length + 1)) ≤ 128 → (L.length + 1) * 5 < M * 3 →
          wpAny (model P w) A (setRelay a (SetTable.grown (L.length + 1))) (fun _ s' => wpAny (model P w) A (pure true) Q E s') E { s with heap := h1 } := fun M z1 z2 z3 z4 => by
        refine relay (s := { s with heap := h1 }) ho1 ⟨hex.1, hex.2.1, hex.2.2⟩ rfl hin hsz1 q3.dm (by rw [hes, q4]; rcases two with ⟨e, e2⟩ | ⟨e, e2⟩ <;> omega) nd1 key1 hp1 ld1 few1 z1 z2 z3 (by rw [hlen]; exact z4) ?_
        exact fun h2 L2 rows2 ep2 t2 sb2 R2 pm2 => wpAny_pure (q true h2 L2 rows2 ep2 t2 (sb.trans sb2) R2 (fun z => absurd z hm) fun _ => pm2.trans pm)
      rcases two with ⟨_, e2⟩ | ⟨_, e2⟩
      · exact go 31 (by rw [e2, size_20]) (.inr (.inl rfl)) (by rw [e2, size_20]; decide) (by omega)
      · exact go 127 (by rw [e2, size_76]) (.inr (.inr rfl)) (by rw [e2, size_76]; decide) (by omega)
    · first
        | refine wp_if_neg (by simp [hf]) ?_
        | (refine wpAny_bind ?_; refine wp_if_neg (by simp [hf]) ?_; refine wpAny_pure ?_)
      refine wpAny_pure (q true h1 L1 rows1 (ep + 1) t1 sb ⟨⟨_, ho1, ⟨hex.1, hex.2.1, hex.2.2⟩, rfl⟩, hin, q3, nd1, key1, hp1, ld1, ?_, few1⟩ (fun z => absurd z hm) fun _ => pm)
      have z := hf
      unfold SetTable.tooFull at z
      rw [decide_eq_true_eq, q9, List.length_map] at z
      rw [hlen]
      omega
end
end Sk
set_option maxHeartbeats 8000000
/-! SkJ: set(xs) and sorted(set) for nested tuples (printed by gen_j.py). -/
namespace Sk
open PySem PySem.Spec PyProof.Rows L2
/-- what the set has of the first i items -/
structure Taken (ks : List HK) (i : Nat) (L : List HK) : Prop where
  sub : ∀ p ∈ L, p ∈ ks.take i
  all : ∀ p ∈ ks.take i, p.2 ∈ L.map (·.2)
theorem Taken.zero (ks : List HK) : Taken ks 0 [] := ⟨fun p h => (by cases h), fun p h => (by simp at h)⟩
theorem Taken.old {ks L : List HK} {i : Nat} {x : HK} (g : Taken ks i L) (h : ks[i]? = some x) (hm : x.2 ∈ L.map (·.2)) : Taken ks (i + 1) L := by
  constructor <;> intro p hp <;> rw [take_snoc h] at *
  · exact List.mem_append_left _ (g.sub p hp)
  · rcases List.mem_append.mp hp with z | z
    · exact g.all p z
    · rw [List.mem_singleton.mp z]; exact hm
theorem Taken.new {ks L L' : List HK} {i : Nat} {x : HK} (g : Taken ks i L) (h : ks[i]? = some x) (pm : L'.Perm (x :: L)) : Taken ks (i + 1) L' := by
  constructor <;> intro p hp <;> rw [take_snoc h] at *
  · rcases List.mem_cons.mp (pm.mem_iff.mp hp) with e | z
    · rw [e]; exact List.mem_append_right _ (List.mem_singleton.mpr rfl)
    · exact List.mem_append_left _ (g.sub p z)
  · rw [(pm.map (·.2)).mem_iff, List.map_cons]
    rcases List.mem_append.mp hp with z | z
    · exact List.mem_cons_of_mem _ (g.all p z)
    · rw [List.mem_singleton.mp z]; exact List.mem_cons_self
/-- never 64 unlike keys -/
def FewK (ks : List HK) : Prop := ∀ M : List NestedKey, M.Nodup → (∀ k ∈ M, k ∈ ks.map (·.2)) → M.length < 64
section
variable {P : Program} {w : World} {A : Around} {E : Value → Shared → Prop} {s : Shared}
theorem KSet.moved {h h' : Heap} {a : Addr} {L : List HK} {rows : Array (Int × Value)} {ep : Nat} {t : SetTable} (R : KSet w h a L rows ep t) (ha : ∀ o, h.get? a = some o → h'.get? a = some o) (hk : ∀ p ∈ L, KeyAt h' p.2 p.1) : KSet w h' a L rows ep t :=
  let ⟨o, ho, r⟩ := R.obj
  ⟨⟨o, ha o ho, r⟩, R.rows, R.tab, R.nd, hk, R.plain, R.led, R.room, R.few⟩
abbrev newSet (w : World) : Obj := { cls := .type "set", dict := none, data := .set #[] 0 (.fresh 0 0 (!w.params.followText "set-order")) }
theorem KSet.fresh {h : Heap} {a : Addr} (ho : h.get? a = some (newSet w)) : KSet w h a [] #[] 0 (.fresh 0 0 (!w.params.followText "set-order")) where
  obj := ⟨_, ho, ⟨rfl, rfl, rfl⟩, rfl⟩
  rows := rfl
  tab := ⟨List.Pairwise.nil, rfl, rfl, .inl rfl, fun x hx => (by cases hx), fun i h j hi => (by simp at hi)⟩
  nd := List.nodup_nil
  key := fun p hp => (by cases hp)
  plain := rfl
  led := by
    show _ ∨ (!w.params.followText "set-order") = true
    cases w.params.followText "set-order" <;> simp
  room := by
    show 0 * 5 < 7 * 3
    decide
  few := by
    show 0 < 64
    decide
/-- the loop that adds what is walked -/
theorem add_all {I : Addr} {fp wr : List Addr} {G : Array GenState → Array GenState → Prop} {n : Nat} {Pv : Nat → Value → Prop} {St : Nat → Shared → Prop} {R : Result → Shared → Prop}
    (W : WalksS P w A.in1 I fp wr G n Pv St) (S : Addr) (hSf : S ∉ fp) (ks : List HK) (hn : n = ks.length) (few : FewK ks) (hval : ∀ i v, Pv i v → ∃ p, ks[i]? = some p ∧ v = .ref p.1)
    (h0 : Heap) (hk : ∀ p ∈ ks, KeyAt h0 p.2 p.1) (hS0 : h0.get? S = none) (hw0 : ∀ b ∈ wr, h0.get? b = none) (hu : A.in1.units + 8 < cLine) :
    ∀ (m i : Nat) (s : Shared), n - i = m → i ≤ n → St i s → (∀ b o, h0.get? b = some o → s.heap.get? b = some o) → (∃ L rows ep t, KSet w s.heap S L rows ep t ∧ Taken ks i L) →
      (∀ s' L rows ep t, Moved (S :: wr) G s s' → KSet w s'.heap S L rows ep t → Taken ks n L → (∀ b o, h0.get? b = some o → s'.heap.get? b = some o) → R (.ok (.ret .none)) s') →
      codeAny (model P w) A (.builtin "set.update.loop" ⟨[.ref S, .ref I], []⟩) R s := by
  have hSw : S ∉ wr := fun h => hSf (W.sub _ h)
  have hsub : ∀ b ∈ wr, b ∈ S :: wr := fun b hb => List.mem_cons_of_mem _ hb
  have base : ∀ {s s' : Shared}, Moved wr G s s' → (∀ b o, h0.get? b = some o → s.heap.get? b = some o) → ∀ b o, h0.get? b = some o → s'.heap.get? b = some o := fun hm hkp b o e =>
    hm.heap b o (fun hb => by rw [hw0 b hb] at e; cases e) (hkp b o e)
  intro m
  induction m with
  | zero =>
    intro i s hm' hi hst hkp ⟨L, rows, ep, t, hS, g⟩ hR
    have hin : i = n := by omega
    subst hin
    refine codeAny_builtin F.entry_set_update_loop ?_
    rw [Around.under_plainId F.plain_set_update_loop _]
    show wpAny _ A.in1 (pyNext (.ref I) >>= _) _ _ s
    refine wpAny_bind (W.done s _ _ hst fun s' hm => ?_)
    show wpAny _ A.in1 (ret Value.none) _ _ s'
    have hkp' := base hm hkp
    exact wpAny_pure (hR s' L rows ep t (hm.mono hsub) (hS.moved (fun o e => hm.heap S o hSw e) fun p hp => (hk p (List.mem_of_mem_take (g.sub p hp))).keep hkp') g hkp')
  | succ m ih =>
    intro i s hm' hi hst hkp ⟨L, rows, ep, t, hS, g⟩ hR
    have hlt : i < n := by omega
    refine codeAny_builtin F.entry_set_update_loop ?_
    rw [Around.under_plainId F.plain_set_update_loop _]
    show wpAny _ A.in1 (pyNext (.ref I) >>= _) _ _ s
    refine wpAny_bind (W.item i s _ _ hlt hst fun v s' hP hst' hm => ?_)
    obtain ⟨p, hp, rfl⟩ := hval i v hP
    have hkp' := base hm hkp
    have mem : ∀ p ∈ L, p ∈ ks := fun p hp => List.mem_of_mem_take (g.sub p hp)
    have hS' : KSet w s'.heap S L rows ep t := hS.moved (fun o e => hm.heap S o hSw e) fun q hq => (hk q (mem q hq)).keep hkp'
    have hx : KeyAt s'.heap p.2 p.1 := (hk p (List.mem_of_getElem? hp)).keep hkp'
    show wpAny _ A.in1 (holding [Value.ref p.1] (setAdd S (.ref p.1)) >>= _) _ _ s'
    refine wpAny_bind (wpAny_holding ?_)
    unfold setAdd
    refine wpAny_holding (wpAny_bind (hx.hash hu ?_))
    refine add_key (s := { s' with toks := s'.toks + p.2.draws }) hS' hx hu (fun z => ?_) fun b h' L' rows' ep' t' hsb hS2 c1 c2 => ?_
    · have f := few (p.2 :: L.map (·.2)) (List.nodup_cons.mpr ⟨z, hS.nd⟩) fun k hk' => by
        rcases List.mem_cons.mp hk' with e | hk'
        · rw [e]; exact List.mem_map.mpr ⟨p, List.mem_of_getElem? hp, rfl⟩
        · obtain ⟨r, hr, e⟩ := List.mem_map.mp hk'
          exact List.mem_map.mpr ⟨r, mem r hr, e⟩
      rw [List.length_cons, List.length_map] at f
      exact f
    · have g' : Taken ks (i + 1) L' := by
        rcases Classical.em (p.2 ∈ L.map (·.2)) with c | c
        · rw [c1 c]; exact g.old hp c
        · exact g.new hp (c2 c)
      have hkp2 : ∀ b o, h0.get? b = some o → h'.get? b = some o := fun b o e => (hsb.2 b (fun z => by rw [z, hS0] at e; cases e)).trans (hkp' b o e)
      refine wpAny_pure ⟨plainId_quiet F.plain_set_update_loop _, ih (i + 1) _ (by omega) hlt (W.frame _ s' _ _ hst' (Nat.le_add_right _ _) fun b hb o e => ?_) hkp2 ⟨L', rows', ep', t', hS2, g'⟩ fun s'' L2 rows2 ep2 t2 hm'' hS'' g'' hkp'' => ?_⟩
      · rw [hsb.2 b (fun h : b = S => hSf (by rw [← h]; exact hb))]; exact e
      · refine hR s'' L2 rows2 ep2 t2 (Moved.trans W.gtrans ((hm.mono hsub).then_heap (Nat.le_add_right _ _) fun b o hb e => ?_) hm'') hS'' g'' hkp''
        rw [hsb.2 b (fun h : b = S => hb (by rw [h]; exact List.mem_cons_self))]; exact e

set_option maxHeartbeats 16000000 in
/-- set(xs), xs a list -/
theorem set_of_list {l : Addr} {items : Array Value} (ks : List HK) {Q : Value → Shared → Prop} (hh : A.handled = none) (hl : s.heap.IsList l items) (hit : items.toList = ks.map fun p => Value.ref p.1)
    (hk : ∀ p ∈ ks, KeyAt s.heap p.2 p.1) (few : FewK ks) (hu : A.units + 20 < cLine)
    (q : ∀ (h' : Heap) (tk : Nat) L rows ep t, KSet w h' s.heap.objs.size L rows ep t → Taken ks ks.length L → (∀ b o, s.heap.get? b = some o → h'.get? b = some o) → Q (.ref s.heap.objs.size) { s with heap := h', toks := tk }) :
    wpAny (model P w) A (call (.type "set") [.ref l]) Q E s := by
  have hisz : items.size = ks.length := by
    have z := congrArg List.length hit
    rw [Array.length_toList, List.length_map] at z
    exact z
  have none_of : ∀ b, s.heap.objs.size ≤ b → s.heap.get? b = none := fun b hb => by
    cases z : s.heap.get? b with
    | none => rfl
    | some o => exact absurd (Nat.lt_of_lt_of_le (Heap.lt_size z) hb) (Nat.lt_irrefl _)
  obtain ⟨c, tl, hmro⟩ := F.called_set.mro
  have hmade := F.called_set.made
  have hsub := F.called_set.sub
  refine wpAny_call (codeAny_of_tree ?_)
  show wpAny _ _ (callAny (.type "set") _) _ _ _
  refine wpAny_pure ⟨Code.quiet_builtin _ (by decide +kernel), codeAny_builtin F.entry_type_call ?_⟩
  rw [Around.under_plain (weight_type_call_type "set" [.ref l] []) rfl]
  have h1 := F.called_set.notType
  have h2 := F.called_set.canCreate
  have hct := F.typeCall_set_1 (.ref l)
  repeat (any_goals (first | assumption | wp_step))
  refine codeAny_mono (code_set_led1 (.ref l) (E := E) (Q₁ := fun obj s₁ => obj = .ref s.heap.objs.size ∧ s₁ = { s with heap := s.heap.push (newSet w) }) ⟨rfl, rfl⟩) fun r s₁ hr => ?_
  cases r with
  | error e => exact hr
  | ok fl =>
    cases fl with
    | ret obj =>
      obtain ⟨rfl, rfl⟩ := hr
      have hS : (s.heap.push (newSet w)).get? s.heap.objs.size = some (newSet w) := Heap.get?_push_size _ rfl
      have hT : Shared.TypeIs { s with heap := s.heap.push (newSet w) } (.ref s.heap.objs.size) "set" := ⟨_, hS, rfl⟩
      have hli := F.called_set.init.lookup
      have hbi := F.called_set.init.bind (.ref s.heap.objs.size)
      repeat (any_goals (first | assumption | wp_step))
      refine codeAny_mono (codeAny_call_builtin (R := wants (fun r s₂ => r = .none ∧ ∃ h' tk L rows ep t, s₂ = { s with heap := h', toks := tk } ∧ KSet w h' s.heap.objs.size L rows ep t ∧ Taken ks ks.length L ∧
          (∀ b o, s.heap.get? b = some o → h'.get? b = some o)) E) F.called_set.init.plain F.entry_set_init (check_set_init_1 hT ?_)) fun r₂ s₂ hr₂ => ?_
      · obtain ⟨ol, hol, hcl, nl, hdl⟩ := hl
        obtain ⟨ocls, odict, odata, oslots⟩ := ol
        simp only at hcl hdl
        subst hcl; subst hdl
        have hol' : (s.heap.push (newSet w)).get? l = some { cls := .type "list", dict := odict, data := .seq items nl, slots := oslots } := Heap.get?_push_of_some _ hol
        have hsls := F.sub_list_set
        have hslf := F.sub_list_frozenset
        have hne : (Value.type "list" == Value.type "dict") = false := by decide
        have hl1 : (s.heap.push (newSet w)).IsList l items := ⟨_, hol', rfl, nl, rfl⟩
        unfold Builtin.«set.__init__» noKeywords Builtin.Frozenset.updateFrom
        generalize hPI : pyIter = PI
        wp_walk
        subst hPI
        refine wpAny_pyIter_list hl1 ?_
        refine wpAny_bind (wpAny_runValue ?_)
        have hlS : l < s.heap.objs.size := Heap.lt_size hol
        have hh3 : A.in1.in1.in1.handled = none := by simp [hh]
        have hz1 : (s.heap.push (newSet w)).objs.size = s.heap.objs.size + 1 := Heap.size_push ..
        have hneI : l ≠ (s.heap.push (newSet w)).objs.size := by
          rw [hz1]; exact Nat.ne_of_lt (Nat.lt_succ_of_lt hlS)
        have hSf : s.heap.objs.size ∉ [(s.heap.push (newSet w)).objs.size, l] := by
          rw [hz1]; simp only [List.mem_cons, List.mem_singleton, List.not_mem_nil, or_false, not_or]
          exact ⟨Nat.ne_of_lt (Nat.lt_succ_self _), Nat.ne_of_gt hlS⟩
        have hval : ∀ (i : Nat) (v : Value), items[i]? = some v → ∃ p, ks[i]? = some p ∧ v = .ref p.1 := fun i v hv => by
          have z : items.toList[i]? = some v := by rw [Array.getElem?_toList]; exact hv
          rw [hit, List.getElem?_map] at z
          cases hq : ks[i]? with
          | none => rw [hq] at z; cases z
          | some p =>
            rw [hq] at z
            exact ⟨p, rfl, (Option.some.inj z).symm⟩
        refine add_all ((Walks.list hh3 _ l hneI items).toS) s.heap.objs.size
          hSf ks hisz few hval s.heap hk (none_of _ (Nat.le_refl _)) (fun b hb => none_of b (by
            rw [List.mem_singleton.mp hb, hz1]
            exact Nat.le_succ _)) (show A.units + 1 + 1 + 1 + 8 < cLine by omega) (items.size - 0) 0 _ (by omega) (Nat.zero_le _)
          ⟨⟨_, Heap.get?_push_size _ rfl, rfl, rfl⟩, (hl1.push _)⟩ (fun b o e => Heap.get?_push_of_some _ (Heap.get?_push_of_some _ e)) ?hS0 ?hR
        case hS0 =>
          exact ⟨[], #[], 0, _, KSet.fresh (Heap.get?_push_of_some _ hS), Taken.zero ks⟩
        case hR =>
          intro s' L rows ep t hm hS' g' hkp
          obtain ⟨h', g2, d', tk', os'⟩ := s'
          have eg : g2 = s.gens := hm.gens
          have ed : d' = s.drawn := hm.drawn
          have eo : os' = s.os := hm.os
          subst eg; subst ed; subst eo
          show wpAny _ _ _ _ _ _
          refine wpAny_pure ?_
          show wpAny _ _ (ret Value.none) _ _ _
          rw [hisz] at g'
          exact wpAny_pure ⟨rfl, h', tk', L, rows, ep, t, rfl, hS', g', hkp⟩
      · cases r₂ with
        | error e => exact hr₂
        | ok fl₂ =>
          cases fl₂ with
          | ret r =>
            obtain ⟨rfl, h', tk, L, rows, ep, t, rfl, hS', g', hk'⟩ := hr₂
            repeat (any_goals (first | assumption | wp_step))
            exact q _ _ _ _ _ _ hS' g' hk'
          | _ => exact hr₂.elim
    | _ => exact hr.elim

set_option maxHeartbeats 16000000 in
/-- set(xs), xs a tuple -/
theorem set_of_tuple {l : Addr} {items : Array Value} (ks : List HK) {Q : Value → Shared → Prop} (hh : A.handled = none) (hl : s.heap.IsTuple l items) (hit : items.toList = ks.map fun p => Value.ref p.1)
    (hk : ∀ p ∈ ks, KeyAt s.heap p.2 p.1) (few : FewK ks) (hu : A.units + 20 < cLine)
    (q : ∀ (h' : Heap) (tk : Nat) L rows ep t, KSet w h' s.heap.objs.size L rows ep t → Taken ks ks.length L → (∀ b o, s.heap.get? b = some o → h'.get? b = some o) → Q (.ref s.heap.objs.size) { s with heap := h', toks := tk }) :
    wpAny (model P w) A (call (.type "set") [.ref l]) Q E s := by
  have hisz : items.size = ks.length := by
    have z := congrArg List.length hit
    rw [Array.length_toList, List.length_map] at z
    exact z
  have none_of : ∀ b, s.heap.objs.size ≤ b → s.heap.get? b = none := fun b hb => by
    cases z : s.heap.get? b with
    | none => rfl
    | some o => exact absurd (Nat.lt_of_lt_of_le (Heap.lt_size z) hb) (Nat.lt_irrefl _)
  obtain ⟨c, tl, hmro⟩ := F.called_set.mro
  have hmade := F.called_set.made
  have hsub := F.called_set.sub
  refine wpAny_call (codeAny_of_tree ?_)
  show wpAny _ _ (callAny (.type "set") _) _ _ _
  refine wpAny_pure ⟨Code.quiet_builtin _ (by decide +kernel), codeAny_builtin F.entry_type_call ?_⟩
  rw [Around.under_plain (weight_type_call_type "set" [.ref l] []) rfl]
  have h1 := F.called_set.notType
  have h2 := F.called_set.canCreate
  have hct := F.typeCall_set_1 (.ref l)
  repeat (any_goals (first | assumption | wp_step))
  refine codeAny_mono (code_set_led1 (.ref l) (E := E) (Q₁ := fun obj s₁ => obj = .ref s.heap.objs.size ∧ s₁ = { s with heap := s.heap.push (newSet w) }) ⟨rfl, rfl⟩) fun r s₁ hr => ?_
  cases r with
  | error e => exact hr
  | ok fl =>
    cases fl with
    | ret obj =>
      obtain ⟨rfl, rfl⟩ := hr
      have hS : (s.heap.push (newSet w)).get? s.heap.objs.size = some (newSet w) := Heap.get?_push_size _ rfl
      have hT : Shared.TypeIs { s with heap := s.heap.push (newSet w) } (.ref s.heap.objs.size) "set" := ⟨_, hS, rfl⟩
      have hli := F.called_set.init.lookup
      have hbi := F.called_set.init.bind (.ref s.heap.objs.size)
      repeat (any_goals (first | assumption | wp_step))
      refine codeAny_mono (codeAny_call_builtin (R := wants (fun r s₂ => r = .none ∧ ∃ h' tk L rows ep t, s₂ = { s with heap := h', toks := tk } ∧ KSet w h' s.heap.objs.size L rows ep t ∧ Taken ks ks.length L ∧
          (∀ b o, s.heap.get? b = some o → h'.get? b = some o)) E) F.called_set.init.plain F.entry_set_init (check_set_init_1 hT ?_)) fun r₂ s₂ hr₂ => ?_
      · obtain ⟨ol, hol, hcl, nl, hdl⟩ := hl
        obtain ⟨ocls, odict, odata, oslots⟩ := ol
        simp only at hcl hdl
        subst hcl; subst hdl
        have hol' : (s.heap.push (newSet w)).get? l = some { cls := .type "tuple", dict := odict, data := .seq items nl, slots := oslots } := Heap.get?_push_of_some _ hol
        have hsls := F.sub_tuple_set
        have hslf := F.sub_tuple_frozenset
        have hne : (Value.type "tuple" == Value.type "dict") = false := by decide
        have hl1 : (s.heap.push (newSet w)).IsTuple l items := ⟨_, hol', rfl, nl, rfl⟩
        unfold Builtin.«set.__init__» noKeywords Builtin.Frozenset.updateFrom
        generalize hPI : pyIter = PI
        wp_walk
        subst hPI
        refine wpAny_pyIter_tuple hl1 ?_
        refine wpAny_bind (wpAny_runValue ?_)
        have hlS : l < s.heap.objs.size := Heap.lt_size hol
        have hh3 : A.in1.in1.in1.handled = none := by simp [hh]
        have hz1 : (s.heap.push (newSet w)).objs.size = s.heap.objs.size + 1 := Heap.size_push ..
        have hneI : l ≠ (s.heap.push (newSet w)).objs.size := by
          rw [hz1]; exact Nat.ne_of_lt (Nat.lt_succ_of_lt hlS)
        have hSf : s.heap.objs.size ∉ [(s.heap.push (newSet w)).objs.size, l] := by
          rw [hz1]; simp only [List.mem_cons, List.mem_singleton, List.not_mem_nil, or_false, not_or]
          exact ⟨Nat.ne_of_lt (Nat.lt_succ_self _), Nat.ne_of_gt hlS⟩
        have hval : ∀ (i : Nat) (v : Value), items[i]? = some v → ∃ p, ks[i]? = some p ∧ v = .ref p.1 := fun i v hv => by
          have z : items.toList[i]? = some v := by rw [Array.getElem?_toList]; exact hv
          rw [hit, List.getElem?_map] at z
          cases hq : ks[i]? with
          | none => rw [hq] at z; cases z
          | some p =>
            rw [hq] at z
            exact ⟨p, rfl, (Option.some.inj z).symm⟩
        refine add_all ((Walks.tuple hh3 _ l hneI items).toS) s.heap.objs.size
          hSf ks hisz few hval s.heap hk (none_of _ (Nat.le_refl _)) (fun b hb => none_of b (by
            rw [List.mem_singleton.mp hb, hz1]
            exact Nat.le_succ _)) (show A.units + 1 + 1 + 1 + 8 < cLine by omega) (items.size - 0) 0 _ (by omega) (Nat.zero_le _)
          ⟨⟨_, Heap.get?_push_size _ rfl, rfl, rfl⟩, (hl1.push _)⟩ (fun b o e => Heap.get?_push_of_some _ (Heap.get?_push_of_some _ e)) ?hS0 ?hR
        case hS0 =>
          exact ⟨[], #[], 0, _, KSet.fresh (Heap.get?_push_of_some _ hS), Taken.zero ks⟩
        case hR =>
          intro s' L rows ep t hm hS' g' hkp
          obtain ⟨h', g2, d', tk', os'⟩ := s'
          have eg : g2 = s.gens := hm.gens
          have ed : d' = s.drawn := hm.drawn
          have eo : os' = s.os := hm.os
          subst eg; subst ed; subst eo
          show wpAny _ _ _ _ _ _
          refine wpAny_pure ?_
          show wpAny _ _ (ret Value.none) _ _ _
          rw [hisz] at g'
          exact wpAny_pure ⟨rfl, h', tk', L, rows, ep, t, rfl, hS', g', hkp⟩
      · cases r₂ with
        | error e => exact hr₂
        | ok fl₂ =>
          cases fl₂ with
          | ret r =>
            obtain ⟨rfl, h', tk, L, rows, ep, t, rfl, hS', g', hk'⟩ := hr₂
            repeat (any_goals (first | assumption | wp_step))
            exact q _ _ _ _ _ _ hS' g' hk'
          | _ => exact hr₂.elim
    | _ => exact hr.elim
end
end Sk
set_option maxHeartbeats 8000000
/-! SkK: sorted(set(xs)) as an expression over data. -/
namespace Sk
open PySem PySem.Spec PyProof.Rows L2 PySem.W

/-! ### each member once -/
section
variable {α : Type} [DecidableEq α]
def dd : List α → List α
  | [] => []
  | a :: l => if a ∈ l then dd l else a :: dd l
theorem mem_dd {x : α} : ∀ {l : List α}, x ∈ dd l ↔ x ∈ l
  | [] => Iff.rfl
  | a :: l => by
    unfold dd
    split
    · rename_i h
      rw [mem_dd (l := l), List.mem_cons]
      exact ⟨.inr, fun z => z.elim (fun e => e ▸ h) id⟩
    · rw [List.mem_cons, List.mem_cons, mem_dd (l := l)]
theorem dd_nodup : ∀ l : List α, (dd l).Nodup
  | [] => List.nodup_nil
  | a :: l => by
    unfold dd
    split
    · exact dd_nodup l
    · rename_i h
      exact List.nodup_cons.mpr ⟨fun z => h (mem_dd.mp z), dd_nodup l⟩
theorem dd_perm {l m : List α} (h : ∀ x, x ∈ l ↔ x ∈ m) (n : m.Nodup) : (dd l).Perm m := (List.perm_ext_iff_of_nodup (dd_nodup l) n).mpr fun x => mem_dd.trans (h x)
theorem dd_len_le (l : List α) : (dd l).length ≤ l.length := (dd_nodup l).length_le_of_subset fun _ h => mem_dd.mp h
end

/-! ### data as keys -/
def toKey : PyData → NestedKey
  | .int i => .num i
  | .tuple ds => .tup (toKeys ds)
  | _ => .none
where toKeys : List PyData → List NestedKey
  | [] => []
  | d :: ds => toKey d :: toKeys ds
/-- ints and tuples alone -/
def bareD : PyData → Bool
  | .int _ => true
  | .tuple ds => bareDs ds
  | _ => false
where bareDs : List PyData → Bool
  | [] => true
  | d :: ds => bareD d && bareDs ds
mutual
theorem toKey_inj : ∀ {d e : PyData}, bareD d = true → bareD e = true → toKey d = toKey e → d = e
  | .int i, .int j, _, _, h => by simp [toKey] at h; rw [h]
  | .int i, .tuple ds, _, _, h => by simp [toKey] at h
  | .tuple ds, .int i, _, _, h => by simp [toKey] at h
  | .tuple ds, .tuple es, a, b, h => by
    simp only [toKey, NestedKey.tup.injEq] at h
    rw [bareD] at a b
    rw [toKeys_inj a b h]
  | .none, _, h, _, _ | .bool _, _, h, _, _ | .str _, _, h, _, _ | .list _, _, h, _, _ | .dict _, _, h, _, _ => by simp [bareD] at h
  | .int _, .none, _, h, _ | .int _, .bool _, _, h, _ | .int _, .str _, _, h, _ | .int _, .list _, _, h, _ | .int _, .dict _, _, h, _ => by simp [bareD] at h
  | .tuple _, .none, _, h, _ | .tuple _, .bool _, _, h, _ | .tuple _, .str _, _, h, _ | .tuple _, .list _, _, h, _ | .tuple _, .dict _, _, h, _ => by simp [bareD] at h
theorem toKeys_inj : ∀ {ds es : List PyData}, bareD.bareDs ds = true → bareD.bareDs es = true → toKey.toKeys ds = toKey.toKeys es → ds = es
  | [], [], _, _, _ => rfl
  | [], _ :: _, _, _, h => by simp [toKey.toKeys] at h
  | _ :: _, [], _, _, h => by simp [toKey.toKeys] at h
  | d :: ds, e :: es, a, b, h => by
    rw [bareD.bareDs, Bool.and_eq_true] at a b
    simp only [toKey.toKeys, List.cons.injEq] at h
    rw [toKey_inj a.1 b.1 h.1, toKeys_inj a.2 b.2 h.2]
end
mutual
theorem toKey_dep : ∀ d : PyData, (toKey d).depth ≤ d.depth
  | .int i => by simp [toKey, NestedKey.depth]
  | .tuple ds => by
    have := toKeys_dep ds
    simp only [toKey, NestedKey.depth, PyData.depth]
    omega
  | .none => by simp [toKey, NestedKey.depth]
  | .bool _ => by simp [toKey, NestedKey.depth]
  | .str _ => by simp [toKey, NestedKey.depth]
  | .list _ => by simp [toKey, NestedKey.depth]
  | .dict _ => by simp [toKey, NestedKey.depth]
theorem toKeys_dep : ∀ ds : List PyData, NestedKey.depthAll (toKey.toKeys ds) ≤ PyData.depthAll ds
  | [] => by simp [toKey.toKeys, NestedKey.depthAll]
  | d :: ds => by
    have h1 := toKey_dep d
    have h2 := toKeys_dep ds
    simp only [toKey.toKeys, NestedKey.depthAll, PyData.depthAll]
    omega
end
mutual
theorem toKey_bare : ∀ d : PyData, bareD d = true → bareK (toKey d) = true
  | .int i, _ => rfl
  | .tuple ds, h => by
    rw [bareD] at h
    simp only [toKey, bareK]
    exact toKeys_bare ds h
  | .none, h | .bool _, h | .str _, h | .list _, h | .dict _, h => by simp [bareD] at h
theorem toKeys_bare : ∀ ds : List PyData, bareD.bareDs ds = true → bareK.bareKs (toKey.toKeys ds) = true
  | [], _ => rfl
  | d :: ds, h => by
    rw [bareD.bareDs, Bool.and_eq_true] at h
    rw [toKey.toKeys, bareK.bareKs, toKey_bare d h.1, toKeys_bare ds h.2] <;> rfl
end
mutual
theorem reads_bare {h : Heap} : ∀ {d : PyData} {v : Value} {as : List Addr}, bareD d = true → Reads h v d as → as = []
  | _, _, _, b, .int _ _ => rfl
  | _, _, _, b, .tuple _ _ _ r => reads_bares (by rw [bareD] at b; exact b) r
  | _, _, _, b, .none => rfl
  | _, _, _, b, .bool _ => rfl
  | _, _, _, b, .str _ _ => rfl
  | _, _, _, b, .list _ _ _ _ => by simp [bareD] at b
  | _, _, _, b, .dict _ _ _ _ _ => by simp [bareD] at b
theorem reads_bares {h : Heap} : ∀ {ds : List PyData} {vs : List Value} {as : List Addr}, bareD.bareDs ds = true → ReadsAll h vs ds as → as = []
  | _, _, _, _, .nil => rfl
  | _, _, _, b, .cons r rs => by
    rw [bareD.bareDs, Bool.and_eq_true] at b
    rw [reads_bare b.1 r, reads_bares b.2 rs] <;> rfl
end
section
variable {X : Cx} {pins : List (Addr × Obj)} {σ : L2.St} {H G : Hp} {s : Shared}
mutual
theorem da_key (I : L2.Inv X pins σ H s) (e : Same G H) : ∀ {d : PyData} {v : V} {u : Value}, bareD d = true → Da G v d → RelV v u → NestedIs s.heap (toKey d) u
  | _, _, _, _, .int i, r => by
    obtain ⟨t, rfl⟩ := r
    exact .int i t
  | _, _, _, b, .tup h hs, r => by
    cases r
    obtain ⟨its, rv, ⟨o, ho, hc, n, hd⟩, _⟩ := I.tuple (.inl (rd_mono e h.rd))
    rw [bareD] at b
    exact .tup ho hc hd (da_keys I e b hs (by simpa using rv))
  | _, _, _, b, .non, _ => by simp [bareD] at b
  | _, _, _, b, .bl _, _ => by simp [bareD] at b
  | _, _, _, b, .str _, _ => by simp [bareD] at b
  | _, _, _, b, .lst _ _, _ => by simp [bareD] at b
  | _, _, _, b, .dct _, _ => by simp [bareD] at b
theorem da_keys (I : L2.Inv X pins σ H s) (e : Same G H) : ∀ {ds : List PyData} {vs : List V} {us : List Value}, bareD.bareDs ds = true → Das G vs ds → Vals vs us → NestedAll s.heap (toKey.toKeys ds) us
  | _, _, _, _, .nil, .nil => .nil
  | _, _, _, b, .cons h hs, .cons r rs => by
    rw [bareD.bareDs, Bool.and_eq_true] at b
    exact .cons (da_key I e b.1 h r) (da_keys I e b.2 hs rs)
end
end

/-! ### set(xs), sorted(set) -/
/-- the set at a, its keys apart -/
structure KSet0 (w : World) (h : Heap) (a : Addr) (L : List HK) : Prop where
  ex : ∃ (rows : Array (Int × Value)) (ep : Nat) (t : SetTable), (∃ o, h.get? a = some o ∧ o.ExactSet ∧ o.data = .set rows ep t) ∧ rows.toList = entries w L ∧ TabOk t (L.map fun p => kh w p.2) ∧ (L.map (·.2)).Nodup ∧ t.plain = true ∧
    (w.params.followText "set-order" = true ∨ t.led = true) ∧ L.length * 5 < t.mask * 3 ∧ L.length < 64
def KSetO (w : World) (a : Addr) (L : List HK) : HO := .ext fun h => KSet0 w h a L
theorem kset_obj {P : Program} {w : World} {H : Hp} {h : Heap} {a : Addr} {L : List HK} (R : KSet0 w h a L) : ObjOk P w H h a (KSetO w a L) := by
  have ⟨rows, ep, t, ⟨o, ho, r⟩, q⟩ := R.ex
  refine ⟨R, ⟨o, ho⟩, fun h1 h2 p k => ?_⟩
  have ⟨rows', ep', t', ⟨o', ho', r'⟩, q'⟩ := KSet0.ex p
  exact ⟨rows', ep', t', ⟨o', k o' ho', r'⟩, q'⟩
theorem KSet0.full {w : World} {h : Heap} {a : Addr} {L : List HK} (R : KSet0 w h a L) (hk : ∀ p ∈ L, KeyAt h p.2 p.1) : ∃ rows ep t, KSet w h a L rows ep t := by
  obtain ⟨rows, ep, t, h1, h2, h3, h4, h5, h6, h7, h8⟩ := R.ex
  exact ⟨rows, ep, t, h1, h2, h3, h4, hk, h5, h6, h7, h8⟩
/-- an arrangement of the images is the image of an arrangement -/
theorem perm_image {α β : Type} (f : α → β) : ∀ {l m : List β}, l.Perm m → ∀ L : List α, m = L.map f → ∃ M : List α, M.Perm L ∧ l = M.map f := by
  intro l m p
  induction p with
  | nil => intro L h; exact ⟨L, .refl _, h⟩
  | cons x p ih =>
    intro L h
    cases L with
    | nil => simp at h
    | cons y L =>
      rw [List.map_cons, List.cons.injEq] at h
      obtain ⟨M, h1, h2⟩ := ih L h.2
      exact ⟨y :: M, h1.cons y, by rw [List.map_cons, h2, h.1]⟩
  | swap x y l =>
    intro L h
    match L, h with
    | [], h => simp at h
    | [_], h => simp at h
    | a :: b :: L, h =>
      simp only [List.map_cons, List.cons.injEq] at h
      exact ⟨b :: a :: L, .swap _ _ _, by rw [List.map_cons, List.map_cons, h.1, h.2.1, h.2.2]⟩
  | trans p1 p2 ih1 ih2 =>
    intro L h
    obtain ⟨M, h1, h2⟩ := ih2 L h
    obtain ⟨M2, h3, h4⟩ := ih1 M h2
    exact ⟨M2, h3.trans h1, h4⟩
theorem each_choose {α β : Type} {R : α → β → Prop} : ∀ {l : List α}, (∀ a ∈ l, ∃ b, R a b) → ∃ m, EachIs R l m
  | [], _ => ⟨[], .nil⟩
  | a :: l, h =>
    let ⟨b, hb⟩ := h a List.mem_cons_self
    let ⟨m, hm⟩ := each_choose fun x hx => h x (List.mem_cons_of_mem _ hx)
    ⟨b :: m, .cons hb hm⟩
/-- en gives keys -/
structure Keyed {α : Type} (en : α → PyData) : Prop extends Kind en where
  bare : ∀ a, bareD (en a) = true
  tup : ∀ a, ∃ ds, en a = .tuple ds
theorem Keyed.kinj {α : Type} {en : α → PyData} (k : Keyed en) {x y : α} (h : toKey (en x) = toKey (en y)) : x = y := k.inj _ _ (toKey_inj (k.bare x) (k.bare y) h)
section
variable {X : Cx} {pins : List (Addr × Obj)} {σ : L2.St} {H G : Hp} {s : Shared} {α : Type} [DecidableEq α] {en : α → PyData}
/-- the member p stands for y -/
def Stands (G : Hp) (en : α → PyData) (p : HK) (y : α) : Prop := Da G (.ref p.1) (en y) ∧ p.2 = toKey (en y)
theorem stand_all (k : Keyed en) : ∀ {xs : List V} {ys : List α}, Das G xs (ys.map en) → ∃ ks : List HK, xs = ks.map (fun p => V.ref p.1) ∧ EachIs (Stands G en) ks ys
  | _, [], .nil => ⟨[], rfl, .nil⟩
  | _, y :: ys, .cons h hs => by
    obtain ⟨ks, e, r⟩ := stand_all k hs
    obtain ⟨ds, ed⟩ := k.tup y
    have h0 := h
    rw [ed] at h0
    obtain ⟨a, vs, rfl, _, _⟩ := h0.tup_inv
    exact ⟨(a, toKey (en y)) :: ks, by rw [e]; rfl, .cons ⟨h, rfl⟩ r⟩
theorem stand_key (I : L2.Inv X pins σ H s) (e : Same G H) (k : Keyed en) {p : HK} {y : α} (h : Stands G en p y) : KeyAt s.heap p.2 p.1 := by
  rw [h.2]
  refine ⟨da_key I e (k.bare y) h.1 rfl, Nat.le_trans (toKey_dep _) (k.dep y), toKey_bare _ (k.bare y)⟩
theorem each_mem_l {α β : Type} {R : α → β → Prop} : ∀ {l : List α} {m : List β}, EachIs R l m → ∀ a ∈ l, ∃ b ∈ m, R a b := fun h a ha => h.left a ha
theorem each_mem_r {α β : Type} {R : α → β → Prop} : ∀ {l : List α} {m : List β}, EachIs R l m → ∀ b ∈ m, ∃ a ∈ l, R a b
  | _, _, .nil, _, h => absurd h (by simp)
  | _, _, .cons (a := a) (b := b) h t, x, hx => by
    rcases List.mem_cons.mp hx with e | hx
    · rw [e]; exact ⟨a, List.mem_cons_self, h⟩
    · obtain ⟨a', h1, h2⟩ := each_mem_r t x hx
      exact ⟨a', List.mem_cons_of_mem _ h1, h2⟩
/-- set(xs), xs a list or a tuple -/
def rSetG (w : World) (G : Hp) (en : α → PyData) (ys : List α) : List V → Hp → VK → Prop := fun vs H Q => ∃ (a : Addr) (xs : List V), vs = [.ref a] ∧ (H a = some (.lst xs) ∨ Rd H a (.tup xs)) ∧ Das G xs (ys.map en) ∧ Same G H ∧ (dd ys).length < 64 ∧
  ∀ p L, H p = none → (∀ q ∈ L, ∃ y ∈ ys, Stands G en q y) → (∀ y ∈ ys, ∃ q ∈ L, q.2 = toKey (en y)) → Q (.ref p) (upd H p (KSetO w p L))
theorem cr_setG {ys : List α} (k : Keyed en) (hc : X.calm = true) (hu : X.A.units + 64 < cLine) : CallR X (.type "set") (rSetG X.w G en ys) := by
  intro pins s σ H vs us Q I r h
  obtain ⟨a, xs, rfl, ha, hd, e, few, q⟩ := h
  rw [Vals.ref1 r]
  obtain ⟨ks, ex, st⟩ := stand_all k hd
  have key : ∀ p ∈ ks, KeyAt s.heap p.2 p.1 := fun p hp => let ⟨y, _, hy⟩ := each_mem_l st p hp; stand_key I e k hy
  have fewK : FewK ks := fun M nd sub => by
    -- each key is that of a member
    obtain ⟨zs, hz⟩ := each_choose (l := M) (R := fun m y => y ∈ ys ∧ m = toKey (en y)) fun m hm => by
      obtain ⟨p, hp, ep⟩ := List.mem_map.mp (sub m hm)
      obtain ⟨y, hy, sy⟩ := each_mem_l st p hp
      exact ⟨y, hy, by rw [← ep]; exact sy.2⟩
    have eM : M = zs.map fun y => toKey (en y) := by
      clear nd sub
      induction hz with
      | nil => rfl
      | cons h t ih => rw [List.map_cons, ← h.2, ← ih]
    have nz : zs.Nodup := by
      rw [eM] at nd
      exact nodup_of_map nd
    have sz : zs ⊆ dd ys := fun y hy => let ⟨m, _, h⟩ := each_mem_r hz y hy; mem_dd.mpr h.1
    have := nz.length_le_of_subset sz
    rw [hz.length]
    omega
  have hn : H s.heap.objs.size = none := I.hok.fresh (Nat.le_refl _)
  have fin : ∀ (h' : Heap) (tk : Nat) L rows ep t, KSet X.w h' s.heap.objs.size L rows ep t → Taken ks ks.length L → (∀ b o, s.heap.get? b = some o → h'.get? b = some o) →
      EP X pins σ Q (.ref s.heap.objs.size) { s with heap := h', toks := tk } := fun h' tk L rows ep t R g kp => by
    refine ⟨.ref s.heap.objs.size, _, I.laid (t' := tk) kp (Nat.le_refl _) (kset_obj (w := X.w) ⟨rows, ep, t, R.obj, R.rows, R.tab, R.nd, R.plain, R.led, R.room, R.few⟩), rfl, q _ L hn (fun p hp => ?_) fun y hy => ?_⟩
    · exact each_mem_l st p (List.mem_of_mem_take (g.sub p hp))
    · obtain ⟨p, hp, sp⟩ := each_mem_r st y hy
      obtain ⟨q', h1, h2⟩ := List.mem_map.mp (g.all p (by rw [List.take_length]; exact hp))
      exact ⟨q', h1, h2.trans sp.2⟩
  have vals : ∀ its : List Value, Vals xs its → its = ks.map fun p => Value.ref p.1 := fun its rv => by
    rw [ex] at rv
    clear st key fewK fin ex
    induction ks generalizing its with
    | nil => cases rv; rfl
    | cons p ks ih =>
      cases rv with
      | cons r t =>
        cases r
        rw [ih _ t] <;> rfl
  rcases ha with ha | ha
  · obtain ⟨its, rv, pl, hz⟩ := I.list (SqL.of (K := X.K) ha)
    exact set_of_list ks (I.ok.hd hc) pl.isList (by simpa using vals its rv) key fewK (by omega) fin
  · obtain ⟨its, rv, pl, hz⟩ := I.tuple (.inl ha)
    exact set_of_tuple ks (I.ok.hd hc) pl (by simpa using vals its rv) key fewK (by omega) fin
/-- sorted(set) -/
def rSortSet (w : World) (G : Hp) (en : α → PyData) (ys : List α) : List V → Hp → VK → Prop := fun vs H Q => ∃ (a : Addr) (L : List HK), vs = [V.ref a] ∧ H a = some (KSetO w a L) ∧ (∀ q ∈ L, ∃ y ∈ ys, Stands G en q y) ∧ (∀ y ∈ ys, ∃ q ∈ L, q.2 = toKey (en y)) ∧ Same G H ∧
  ∀ xs' p, Das G xs' ((dsort en (dd ys)).map en) → H p = none → Q (.ref p) (upd H p (.lst xs'))
theorem cr_sortSet {ys : List α} (k : Keyed en) (hs : ∀ zs : List α, (∀ z ∈ zs, z ∈ ys) → Sortable (zs.map en)) (hc : X.calm = true) (hu : X.A.units + 65 < cLine) : CallR X (.builtin "sorted") (rSortSet X.w G en ys) := by
  intro pins s σ H vs us Q I r h
  obtain ⟨a, L, rfl, ha, h1, h2, e, q⟩ := h
  have R0 : KSet0 X.w s.heap a L := (I.hok a _ ha).1
  obtain ⟨rows, ep, t, R⟩ := R0.full fun p hp => let ⟨y, _, hy⟩ := h1 p hp; stand_key I e k hy
  rw [Vals.ref1 r]
  obtain ⟨o, ho, hex, hd⟩ := R.obj
  have hsz := R.size
  have hfew := R.few
  refine Calls.call_function_entry kind_sorted plain_sorted entry_sorted (args_sorted1 _) ?_
  unfold Builtin.«sorted»
  refine wpAny_bind (m := checkCount "sorted" 1 1 _) (wpAny_pure ?_)
  refine wpAny_bind (collect_set (A := X.A.in1) (show X.A.in1.handled = none from I.ok.hd hc) ⟨o, ho, hex.1, hd⟩ R.fits (by unfold scanBound; omega) R.tab.ris R.led fun s1 out0 k1 hz g1 o1 pm => ?_)
  have hes : rows.toList.map (·.2) = L.map fun q => Value.ref q.1 := by
    rw [R.rows, entries, List.map_map] <;> rfl
  rw [hes] at pm
  obtain ⟨M, pM, eM⟩ := perm_image (fun q : HK => Value.ref q.1) pm L rfl
  obtain ⟨zs, hzs⟩ := each_choose (l := M) (R := fun q y => y ∈ ys ∧ Stands G en q y) fun p hp => let ⟨y, hy, sy⟩ := h1 p (pM.mem_iff.mp hp); ⟨y, hy, sy⟩
  have keys : zs.map (fun y => toKey (en y)) = M.map (·.2) := by
    clear pM eM
    induction hzs with
    | nil => rfl
    | cons h t ih => rw [List.map_cons, List.map_cons, ih, h.2.2]
  have nz : zs.Nodup := by
    have n1 : (M.map (·.2)).Nodup := (pM.map (·.2)).nodup_iff.mpr R.nd
    rw [← keys] at n1
    exact nodup_of_map n1
  have same : ∀ y, y ∈ ys ↔ y ∈ zs := fun y => by
    constructor
    · intro hy
      obtain ⟨q', hq, eq⟩ := h2 y hy
      obtain ⟨z, hz1, hz2⟩ := each_mem_l hzs q' (pM.mem_iff.mpr hq)
      have : z = y := k.kinj (hz2.2.2.symm.trans eq)
      rw [← this]
      exact hz1
    · intro hy
      obtain ⟨q', _, h⟩ := each_mem_r hzs y hy
      exact h.1
  have hlen : out0.length < 64 := by rw [pm.length_eq, List.length_map]; exact hfew
  have eb : EachIs (Bears G en) out0 zs := by
    rw [eM]
    clear keys nz same hlen pM eM
    induction hzs with
    | nil => exact .nil
    | cons h t ih => exact .cons ⟨V.ref _, rfl, h.2.1⟩ ih
  refine wpAny_bind (wpAny_newList ?_ (by rw [sizeLine_eq]; omega))
  have hoL : (s1.heap.push (seqObj "list" out0.toArray 0)).get? s1.heap.objs.size = some (seqObj "list" out0.toArray 0) := Heap.get?_push_size _ rfl
  have old : ∀ b u, s.heap.get? b = some u → (s1.heap.push (seqObj "list" out0.toArray 0)).get? b = some u := fun b u g => Heap.get?_push_of_some _ (k1 b u g)
  -- the members read as their data still, off older objects
  have rd0 : EachIs (fun v b => ∃ as, Reads s.heap v (en b) as) out0 zs := reads_of I e k.lay eb
  have nas : ∀ y v as, Reads s.heap v (en y) as → as = [] := fun y v as r => reads_bare (k.bare y) r
  have rd : EachIs (fun v b => ∃ as, Reads (s1.heap.push (seqObj "list" out0.toArray 0)) v (en b) as ∧ s1.heap.objs.size ∉ as) out0 zs := rd0.mono fun v b ⟨as, rb⟩ => by
    refine ⟨as, PyProof.Rows.Reads.keeps (fun b u g => old b u g) rb, fun hm => ?_⟩
    rw [nas b v as rb] at hm
    exact absurd hm (by simp)
  have hlz : zs.length = out0.length := eb.length.symm
  refine wpAny_bind (wpAny_holding (PySem.W.list_sort_data (s := { s1 with heap := s1.heap.push (seqObj "list" out0.toArray 0) }) hoL eb rd (AllAlike.of k.alike) (hs zs fun z hz => (same z).mpr hz) (by rw [hlz, sizeLine_eq]; omega) (fun b _ => by have := k.dep b; show X.A.units + 1 + 1 + (en b).depth < cLine; omega) fun out ho2 eo => ?_))
  obtain ⟨xs', v1, v2⟩ := of_bears eo
  obtain ⟨c, hcL⟩ := sortedHeap_at (vs := out0) (out := out.toArray) hoL
  have es : zs.mergeSort (dataLe false en) = dsort en (dd ys) := k.toKind.dsort_eq (dd_perm same nz).symm
  rw [es] at v2
  have hl' : xs'.length ≤ sizeLine := by
    rw [v1.length, ho2, hlz, sizeLine_eq]
    omega
  have hn : H s1.heap.objs.size = none := I.hok.fresh hz
  have kp : ∀ b u, s.heap.get? b = some u → (sortedHeap (s1.heap.push (seqObj "list" out0.toArray 0)) s1.heap.objs.size out0 out.toArray).get? b = some u := fun b u g => by
    have q1 := k1 b u g
    have hlt := Heap.lt_size q1
    rw [sortedHeap_old (Nat.ne_of_lt hlt) (by rw [size_push']; exact Nat.lt_succ_of_lt hlt)]
    exact Heap.get?_push_of_some _ q1
  have J : L2.Inv X pins σ (upd H s1.heap.objs.size (.lst xs')) { s with heap := sortedHeap (s1.heap.push (seqObj "list" out0.toArray 0)) s1.heap.objs.size out0 out.toArray, gens := s1.gens, drawn := s1.drawn, toks := s1.toks } :=
    I.call (ch := []) (Un.laid kp hz hn) (I.hok.laid kp hz ⟨hl', out, c, v1, hcL⟩) (by rw [g1]; exact I.bare) (fun _ z => nomatch z)
  have eo1 : s1.os = s.os := o1
  refine wpAny_pure ⟨_, rfl, .ref s1.heap.objs.size, _, ?_, rfl, q xs' _ v2 hn⟩
  rw [← eo1] at J
  exact J
end
section
variable {P : Program} {w : World} {K : PySem.W.Frag} {mg : Str → Option Value} {base : Heap} {k : Nat} {N : List Str} {sc own : Scope} {X : Cx} {T : Dom} {ρ ρ' : List (Option PyData)} {pos : Pos}
theorem e_sortSet (C : At P w K mg base k N sc own X) (B : Bt mg) {p p2 pos2 : Pos} {a : Expr} {α : Type} [DecidableEq α] {en : α → PyData} {d : PyData} {ys : List α} (kd : Keyed en) (hs : ∀ zs : List α, (∀ z ∈ zs, z ∈ ys) → Sortable (zs.map en)) (ha : E X T ρ a d) (hd : d = .tuple (ys.map en) ∨ d = .list (ys.map en)) (few : (dd ys).length < 64)
    (hx : globOk sc "sorted" = true := by decide +kernel) (hx2 : globOk sc "set" = true := by decide +kernel) (hp : plainE a = true := by rfl) :
    E X T ρ (.Call (.Name "sorted" p) [.Call (.Name "set" p2) [a] [] pos2] [] pos) (.list ((dsort en (dd ys)).map en)) := fun σ H Q ok q => by
  have cs : CallR X (.type "set") (fun vs H Q => ∃ G, rSetG X.w G en ys vs H Q) := fun pins s σ H vs us Q I r ⟨G, h⟩ => cr_setG kd C.calm (by have := C.units; omega) pins s σ H vs us Q I r h
  have cr : CallR X (.builtin "sorted") (fun vs H Q => ∃ G, rSortSet X.w G en ys vs H Q) := fun pins s σ H vs us Q I r ⟨G, h⟩ => cr_sortSet kd hs C.calm C.units pins s σ H vs us Q I r h
  refine we_callB C cr hx B.sorted (by decide +kernel) rfl (to_wa (pa_cons pe_we pa_nil (star_plain rfl)) ?_)
  refine we_callTy C cs hx2 B.set (by decide +kernel) (by rw [List.all_cons, hp]; rfl) (one ha ok hp fun v H' e hv => ?_)
  obtain ⟨b, vs, rfl, h2, h3⟩ := hv.seq hd
  refine ⟨hid T H', b, vs, rfl, h2.elim (fun z => .inr (rd_mono hid_le z)) (fun z => .inl (hid_le _ _ z)), h3, hid_le, few, fun l L nl m1 m2 => ?_⟩
  refine ⟨hid T H', l, L, rfl, upd_same, m1, m2, hid_le.trans (same_new nl), fun xs' p h4 np => ?_⟩
  have e2 := same_new2 (o := KSetO X.w l L) e nl
  refine q _ _ (same_new2 e2 np) (.lst (hid_new (ok.1.mono e2) np) (h4.mono ?_))
  exact (same_hid (same_new nl)).trans (same_hid (same_new np))
end
end Sk
set_option maxHeartbeats 8000000
/-! SkL: dicts with spots as keys and ints as values. -/
namespace Sk
open PySem PySem.Spec PyProof.Rows L2 PySem.W

/-! ### the data -/
def getS (r : Row) (k : Spot) : Option Int := (r.find? fun kv => decide (kv.1 = k)).map (·.2)
def putS (r : Row) (k : Spot) (v : Int) : Row := if (r.any fun kv => decide (kv.1 = k)) = true then r.map (fun kv => if kv.1 = k then (kv.1, v) else kv) else r ++ [(k, v)]
def dictS (r : Row) : Row := r.foldl (fun acc p => putS acc p.1 p.2) []
def eDict (r : Row) : PyData := .dict (r.map kvD)
def kS (k : Spot) : List Key := [Sum.inl k.1, Sum.inl k.2]
theorem kS_inj {a b : Spot} (h : kS a = kS b) : a = b := by
  unfold kS at h
  simp at h
  exact Prod.ext h.1 h.2
theorem kS_iff {a b : Spot} : kS a = kS b ↔ a = b := ⟨kS_inj, fun e => by rw [e]⟩
theorem kvV_eq (p : Pr) : kvV p = (kS p.1, .int p.2) := rfl
theorem kvD_inj {a b : Pr} (h : kvD a = kvD b) : a = b := by
  unfold kvD at h
  simp at h
  exact Prod.ext (Prod.ext h.1.1 h.1.2) h.2
theorem valV_kv (k : Spot) : ∀ r : Row, valV (r.map kvV) (kS k) = (getS r k).map V.int
  | [] => rfl
  | p :: r => by
    rw [List.map_cons, kvV_eq]
    unfold getS
    rw [List.find?_cons]
    by_cases e : p.1 = k
    · rw [valV_pos (show kS p.1 = kS k by rw [e]), decide_eq_true e]
      rfl
    · rw [valV_neg (fun z => e (kS_inj z)), decide_eq_false e]
      exact valV_kv k r
theorem any_kv (k : Spot) (r : Row) : ((r.map kvV).any fun kv => decide (kv.1 = kS k)) = r.any fun kv => decide (kv.1 = k) := by
  induction r with
  | nil => rfl
  | cons p r ih =>
    rw [List.map_cons, List.any_cons, List.any_cons, ih]
    congr 1
    rw [Bool.eq_iff_iff, decide_eq_true_iff, decide_eq_true_iff]
    exact kS_iff
theorem putK_kv (r : Row) (k : Spot) (v : Int) : putK (r.map kvV) (kS k) (.int v) = (putS r k v).map kvV := by
  unfold putK putS
  rw [any_kv]
  split
  · rw [List.map_map, List.map_map]
    refine List.map_congr_left fun p _ => ?_
    show (if kS p.1 = kS k then (kS p.1, V.int v) else kvV p) = kvV (if p.1 = k then (p.1, v) else p)
    by_cases e : p.1 = k
    · rw [if_pos e, if_pos (by rw [e])] <;> rfl
    · rw [if_neg e, if_neg (fun z => e (kS_inj z))]
  · rw [List.map_append] <;> rfl
theorem putS_len (r : Row) (k : Spot) (v : Int) : (putS r k v).length ≤ r.length + 1 := by
  unfold putS
  split
  · rw [List.length_map]; omega
  · rw [List.length_append, List.length_singleton]; omega
theorem foldS_len : ∀ (r acc : Row), (r.foldl (fun acc p => putS acc p.1 p.2) acc).length ≤ acc.length + r.length
  | [], acc => by simp
  | p :: r, acc => by
    rw [List.foldl_cons, List.length_cons]
    have h1 := foldS_len r (putS acc p.1 p.2)
    have h2 := putS_len acc p.1 p.2
    omega
theorem dictS_len (r : Row) : (dictS r).length ≤ r.length := by
  have := foldS_len r []
  rw [List.length_nil, Nat.zero_add] at this
  exact this
/-! ### data in the heap -/
theorem Da.spot_inv {G : Hp} {v : V} {s : Spot} (h : Da G v (eSpot s)) : ∃ b, v = .ref b ∧ G b = some (.tup ((kS s).map kV)) := by
  obtain ⟨a, vs, rfl, h1, h2⟩ := Da.tup_lab h
  refine ⟨a, rfl, ?_⟩
  have e := Das.ints_inv (ns := [s.1, s.2]) h2
  subst e
  rcases h1 with ⟨_, h1⟩ | ⟨m, _⟩
  · exact h1
  · cases m
theorem da_spot {G : Hp} {b : Addr} {s : Spot} (h : G b = some (.tup ((kS s).map kV))) : Da G (.ref b) (eSpot s) := .tup (.tup h) (.cons (.int _) (.cons (.int _) .nil))
theorem Da.pair_inv {G : Hp} {v : V} {p : Pr} (h : Da G v (ePair p)) : ∃ t b, v = .ref t ∧ Rd G t (.tup [.ref b, .int p.2]) ∧ G b = some (.tup ((kS p.1).map kV)) := by
  obtain ⟨a, vs, rfl, h1, h2⟩ := Da.tup_inv h
  cases h2 with
  | cons h3 h4 =>
    cases h4 with
    | cons h5 h6 =>
      cases h6
      cases h5
      obtain ⟨b, rfl, hb⟩ := h3.spot_inv
      exact ⟨a, b, rfl, h1, hb⟩
theorem Da.dict_inv {G : Hp} {v : V} {r : Row} (h : Da G v (eDict r)) : ∃ a, v = .ref a ∧ G a = some (.dT (r.map kvV)) := by
  unfold eDict at h
  generalize hd : PyData.dict (r.map kvD) = d at h
  cases h with
  | dct h =>
    rename_i a kvs
    rw [PyData.dict.injEq] at hd
    have e : r = kvs := map_inj (fun _ _ => kvD_inj) _ _ hd
    subst e
    exact ⟨a, rfl, h⟩
  | _ => cases hd
theorem mustP_row (r : Row) : mustP (r.map ePair) = true := by
  unfold mustP
  rw [List.all_map]
  exact List.all_eq_true.mpr fun p _ => rfl
theorem Da.row_inv {G : Hp} {v : V} {r : Row} (h : Da G v (eRow r)) : ∃ a vs o, v = .ref a ∧ G a = some (.frz o (.tup vs)) ∧ o.dict = none ∧ Das G vs (r.map ePair) := by
  obtain ⟨a, vs, rfl, h1, h2⟩ := Da.tup_lab h
  rcases h1 with ⟨m, _⟩ | ⟨_, o, h1, od⟩
  · rw [mustP_row] at m; cases m
  · exact ⟨a, vs, o, rfl, h1, od, h2⟩
/-! ### dict(row) -/
section
variable {X : Cx} {pins : List (Addr × Obj)} {σ : L2.St} {H G : Hp} {s : Shared}
/-- the pairs of a row in the machine: their addresses, the keys' and the values -/
def PrF (H : Hp) (h : Heap) (e : Addr × (List Key × Addr × Value)) (p : Pr) : Prop := e.2.1 = kS p.1 ∧ PairAt h e.1 (.ref e.2.2.1) e.2.2.2 ∧ H e.2.2.1 = some (.tup ((kS p.1).map kV)) ∧ RelV (.int p.2) e.2.2.2
theorem row_pairs (I : L2.Inv X pins σ H s) (e : Same G H) : ∀ {r : Row} {vs : List V} {us : List Value}, Das G vs (r.map ePair) → Vals vs us → ∃ es : List (Addr × (List Key × Addr × Value)), Paired (PrF H s.heap) es r ∧ us = es.map fun e => Value.ref e.1
  | [], _, _, .nil, .nil => ⟨[], .nil, rfl⟩
  | p :: r, _, _, .cons h hs, .cons rv rs => by
    obtain ⟨es, h1, h2⟩ := row_pairs I e hs rs
    obtain ⟨t, b, rfl, h3, h4⟩ := h.pair_inv
    cases rv
    obtain ⟨its, r2, pl, _⟩ := I.tuple (.inl (rd_mono e h3))
    cases r2 with
    | cons a1 a2 =>
      cases a2 with
      | cons a3 a4 =>
        cases a4
        cases a1
        exact ⟨(t, kS p.1, b, _) :: es, .cons ⟨rfl, .inl (let ⟨o, ho, hc, n, hd⟩ := pl; ⟨o, ho, hc, n, hd⟩), e _ _ h4, a3⟩ h1, by rw [h2] <;> rfl⟩
theorem KT.fold {H : Hp} {h : Heap} : ∀ {es : List (Addr × (List Key × Addr × Value))} {r : Row}, Paired (PrF H h) es r → ∀ {acc : Row} {xs : List (List Key × Addr × Value)}, KT H (acc.map kvV) xs →
    KT H ((r.foldl (fun acc p => putS acc p.1 p.2) acc).map kvV) (storedAllH xs (es.map (·.2)))
  | _, _, .nil, acc, xs, k => k
  | _, _, .cons (a := e) (b := p) h t, acc, xs, k => by
    rw [List.foldl_cons]
    refine KT.fold t (xs := storedH xs e.2.1 e.2.2.1 e.2.2.2) ?_
    rw [← putK_kv, h.1]
    exact k.put (kS p.1) h.2.2.1 h.2.2.2
def rDictG (G : Hp) (r : Row) : List V → Hp → VK → Prop := fun vs H Q => ∃ (a : Addr) (xs : List V) (o : Obj), vs = [.ref a] ∧ H a = some (.frz o (.tup xs)) ∧ o.dict = none ∧ Das G xs (r.map ePair) ∧ Same G H ∧ ∀ p, H p = none → Q (.ref p) (upd H p (.dT ((dictS r).map kvV)))
theorem cr_dictG {r : Row} (hc : X.calm = true) (hu : X.A.units + 64 < cLine) : CallR X (.type "dict") (rDictG G r) := by
  intro pins s σ H vs us Q I rv h
  obtain ⟨a, xs, o, rfl, ha, od, hd, e, q⟩ := h
  rw [Vals.ref1 rv]
  obtain ⟨ho, hz, its, rx, o', ho', hc', n, hdat⟩ := I.hok a _ ha
  have eo : o = o' := Option.some.inj (ho.symm.trans ho')
  subst eo
  obtain ⟨es, pr, eu⟩ := row_pairs I e hd rx
  have lr : es.length = r.length := Paired.length pr
  have lx : xs.length = r.length := by rw [hd.length, List.length_map]
  have at_ : ∀ j e, es[j]? = some e → ∃ p, r[j]? = some p ∧ PrF H s.heap e p := fun j e he => LiI.paired_get pr he
  have hs : (s.heap.objs.size == sysModules) = false := beq_eq_false_iff_ne.mpr (Ne.symm (Nat.ne_of_lt I.big))
  refine call_dict_pairsH (knd := tupleKind (mixKind X.prog X.w)) (ps := es.map (·.2)) (PairArg.tuple a its.toArray (fun j => ((es[j]?).map (·.1)).getD 0) (es.map fun e => (Value.ref e.2.2.1, e.2.2.2))) (I.ok.hd hc) (show X.A.units + 1 + 1 < cLine by omega) ⟨⟨o, n, ho, hc', od, hdat⟩, ?_, fun j k v hj => ?_⟩ ⟨by rw [List.length_map, List.length_map], fun i key v hi => ?_⟩ (fun h' hk x hx => ?_) (by rw [List.length_map, lr, ← lx]; exact hz) fun h' tk hd' hk => ?_
  · rw [List.size_toArray, eu, List.length_map, List.length_map]
  · rw [List.getElem?_map] at hj
    obtain ⟨e', he, ee⟩ := Option.map_eq_some_iff.mp hj
    cases ee
    obtain ⟨p, hp, f⟩ := at_ j e' he
    refine ⟨?_, ?_⟩
    · rw [← Array.getElem?_toList, List.toList_toArray, eu, List.getElem?_map, he]
      show some (Value.ref e'.1) = some (Value.ref (((es[j]?).map (·.1)).getD 0))
      rw [he] <;> rfl
    · show PairAt s.heap (((es[j]?).map (·.1)).getD 0) _ _
      rw [he]
      exact f.2.1
  · have hi' : (es.map fun e => (Value.ref e.2.2.1, e.2.2.2))[i]? = some (key, v) := hi
    rw [List.getElem?_map] at hi'
    obtain ⟨e', he, ee⟩ := Option.map_eq_some_iff.mp hi'
    cases ee
    exact ⟨e'.2.1, e'.2.2.1, by rw [List.getElem?_map, he] <;> rfl, rfl⟩
  · obtain ⟨e', he, rfl⟩ := List.mem_map.mp hx
    obtain ⟨j, hj⟩ := List.mem_iff_getElem?.mp he
    obtain ⟨p, hp, f⟩ := at_ j e' hj
    rw [f.1]
    refine tupleKind_stays.stays (fun b o vs n hb _ => hk b o (Nat.ne_of_lt (Heap.lt_size hb)) (by simp) hb) (key_of I.hok f.2.2.1)
  · have kt := KT.fold pr (acc := []) (xs := []) .nil
    obtain ⟨o2, es2, ep, hq, h2, h3, h4, _, h5⟩ := hd'
    have hn : H s.heap.objs.size = none := I.hok.fresh (Nat.le_refl _)
    refine ⟨.ref s.heap.objs.size, _, I.laid (t' := tk) (o := .dT ((dictS r).map kvV)) (fun b u eb => hk b u (by simp) eb) (Nat.le_refl _) ⟨?_, hs, _, KT.keeps kt (fun b ys eb => by rw [upd_ne (ne_of_none eb hn)]; exact eb), o2, es2, ep, hq, h2, h3, h4, h5⟩, rfl, q _ hn⟩
    rw [List.length_map]
    have := dictS_len r
    omega
/-! ### list(d.items()), sorted(d) -/
def rItemsS (x : V) (H : Hp) (Q : VK) : Prop := ∃ (d : Addr) (r : Row), x = .ref d ∧ H d = some (.dT (r.map kvV)) ∧
  ∀ (H' : Hp) (p : Addr) (xs : List V), Same H H' → H p = none → H' p = some (.lst xs) → Paired (fun (v : V) (q : Pr) => ∃ t b, v = .ref t ∧ H t = none ∧ H' t = some (.tup [.ref b, .int q.2]) ∧ H b = some (.tup ((kS q.1).map kV))) xs r → Q (.ref p) H'
theorem each_get {α β : Type} {R : α → β → Prop} : ∀ {us : List α} {bs : List β}, us.length = bs.length → (∀ (j : Nat) (b : β), bs[j]? = some b → ∃ u, us[j]? = some u ∧ R u b) → EachIs R us bs
  | [], [], _, _ => .nil
  | [], _ :: _, h, _ => by cases h
  | _ :: _, [], h, _ => by cases h
  | x :: xs, y :: ys, h, k => by
    obtain ⟨y', e, f⟩ := k 0 y rfl
    cases (Option.some.inj e)
    exact .cons f (each_get (Nat.succ.inj h) fun j z hz => k (j + 1) z hz)
theorem pairs_get {α β : Type} {F : α → β → Prop} : ∀ {xs : List α} {ys : List β}, xs.length = ys.length → (∀ (j : Nat) (x : α), xs[j]? = some x → ∃ y, ys[j]? = some y ∧ F x y) → Paired F xs ys
  | [], [], _, _ => .nil
  | [], _ :: _, h, _ => by cases h
  | _ :: _, [], h, _ => by cases h
  | x :: xs, y :: ys, h, k => by
    obtain ⟨y', e, f⟩ := k 0 x rfl
    cases (Option.some.inj e)
    exact .cons f (pairs_get (Nat.succ.inj h) fun j z hz => k (j + 1) z hz)
theorem pe_itemsS {e : Expr} {te : TE} {p apos cpos pos : Pos} (hc : X.calm = true) (he : PE X e te) (hg : Gl X "list") (hm : X.mg "list" = none) (hv : bootBuiltins "list" = some (.type "list")) (hbase : attributeBase e "items" X.env (eval e X.env) = eval e X.env := by rfl) (hline : (apos.endLine == cpos.line) = true := by rfl)
    (hs : starEach [.Call (.Attribute e "items" apos) [] [] cpos] X.env = (false, eval (.Call (.Attribute e "items" apos) [] [] cpos) X.env) :: starEach [] X.env := by rfl) :
    PE X (.Call (.Name "list" p) [.Call (.Attribute e "items" apos) [] [] cpos] [] pos) (fun σ H Q => te σ H fun x H1 => rItemsS x H1 Q) := by
  refine ⟨fun pins s σ H Q I hq => ?_⟩
  refine wpAny_Call_Name_kw (ld_blt I hg hm hv ?_)
  refine PyProof.Rows.callWith_type1 ?_ hs rfl
  rw [hs]
  show wpAny _ _ (spliced ((false, eval (.Call (.Attribute e "items" apos) [] [] cpos) X.env) :: backTo pos (starEach [] X.env))) _ _ s
  refine Calls.spliced_cons ?_
  refine wpAny_Call_method0_late hbase hline (thn (he.run pins s σ H _ I hq) fun u s1 ⟨x, H1, I1, rx, d, r, ex, hd, q⟩ => ?_)
  subst ex
  obtain rfl : u = Value.ref d := rx
  obtain ⟨hz, hs0, xs, kt, o, es, ep, ho, hx, hdat, hes, hnd⟩ := I1.hok d _ hd
  have raw : s1.heap.DictRaw d es ep := ⟨o, ho, hx, hdat⟩
  refine ⟨"dict", "dict.items", F.plainAttrs_dict, F.slot_dict_items, F.type_dict_items, ⟨o, ho, hx.1⟩, fun a ea => by cases ea; exact ⟨o, ho, hx.2.1⟩, ?_⟩
  have I2 : L2.Inv X pins σ H1 { s1 with heap := s1.heap.push { cls := .type "dict_items", data := .fields #[.ref d] } } := I1.kept (t' := s1.toks) fun b ob q => Heap.get?_push_of_some _ q
  refine Calls.callWith_builtin rfl (PySem.evalArgs_none (DT.callItems (es := es) (ep := ep) hs0 ⟨o, ho, hx, hdat⟩ ?_))
  refine Calls.spliced_nil ?_
  have lk : (r.map kvV).length = xs.length := Paired.length kt
  have le : es.size = xs.length := size_of_entries hes
  rw [List.length_map] at lk hz
  refine PySem.W.dil_call (es := es) (ep := ep) (I1.ok.hd hc) ⟨_, Heap.get?_push_size _ rfl, rfl, rfl⟩ (raw.push _) (by omega) fun h' tk acc c as hk hS hl hG hacc => ?_
  have nd : as.Nodup := List.Pairwise.imp (fun {a b} (h : a < b) => Nat.ne_of_lt h) hG.rise
  have hn0 : H1 (s1.heap.push { cls := .type "dict_items", data := .fields #[.ref d] }).objs.size = none := I2.hok.fresh (Nat.le_refl _)
  have I3 := I2.laid (a := (s1.heap.push { cls := .type "dict_items", data := .fields #[.ref d] }).objs.size) (o := .lst (as.map V.ref)) (h' := h') (t' := tk) hk (Nat.le_refl _) ⟨by rw [List.length_map]; omega, as.map Value.ref, c, LiI.vals_refs as, by rw [← hacc, Array.toArray_toList]; exact hS⟩
  obtain ⟨H2, I4, g, qt⟩ := L2.DX.takeT (h' := h') (tk := tk) (P := fun a vs => ∃ (j : Nat) (q : Pr) (b : Addr), as[j]? = some a ∧ r[j]? = some q ∧ vs = [.ref b, .int q.2] ∧ H1 b = some (.tup ((kS q.1).map kV))) I2 as _ I3 nd fun a ha => by
    obtain ⟨j, hj⟩ := List.mem_iff_getElem?.mp ha
    obtain ⟨hjs, hga⟩ := hG.pairs j a hj
    have hlo := hG.above a ha
    refine ⟨Nat.le_of_lt hlo, ?_, ?_⟩
    · rw [upd_ne (Nat.ne_of_gt hlo)]
      exact I2.hok.fresh (Nat.le_of_lt hlo)
    · have hjr : j < r.length := by omega
      have hr : r[j]? = some r[j] := List.getElem?_eq_getElem hjr
      have hr' : (r.map kvV)[j]? = some (kvV r[j]) := by rw [List.getElem?_map, hr] <;> rfl
      obtain ⟨y, hy, k1, k2, k3⟩ := LiI.paired_get kt hr'
      have he := entry_at hes j
      rw [hy] at he
      have he' : es[j] = entryOfKey (tupleKind (mixKind X.prog X.w)) y := Option.some.inj ((Array.getElem?_eq_getElem hjs).symm.trans he)
      refine ⟨[.ref y.2.1, .int r[j].2], ⟨j, r[j], y.2.1, hj, hr, rfl, k2⟩, fun H3 => ⟨(by rw [sizeLine_eq]; show 2 ≤ 16777216; omega), [.ref y.2.1, y.2.2], .cons rfl (.cons k3 .nil), ⟨_, hga, rfl, 0, ?_⟩⟩⟩
      rw [he'] <;> rfl
  refine ⟨.ref _, H2, I4, rfl, q H2 _ (as.map V.ref) (fun b o e => g b o (by rw [upd_ne (ne_of_none e hn0)]; exact e)) hn0 (g _ _ upd_same) ?_⟩
  refine pairs_get (by rw [List.length_map]; omega) fun j x hj => ?_
  rw [List.getElem?_map] at hj
  obtain ⟨a, ha, rfl⟩ := Option.map_eq_some_iff.mp hj
  obtain ⟨vs, ⟨i, q', b, h1, h2, h3, h4⟩, h5⟩ := qt a (List.mem_of_getElem? ha)
  have eij : i = j := (List.getElem?_inj (List.getElem?_eq_some_iff.mp h1).1 nd).mp (h1.trans ha.symm)
  subst eij
  subst h3
  exact ⟨q', h2, a, b, rfl, I2.hok.fresh (Nat.le_of_lt (hG.above a (List.mem_of_getElem? ha))), h5, h4⟩
/-- sorted(d): the keys -/
def rSortD (G : Hp) (r : Row) : List V → Hp → VK → Prop := fun vs H Q => ∃ (a : Addr), vs = [V.ref a] ∧ H a = some (.dT (r.map kvV)) ∧ Tups H G ∧ Same G H ∧
  ∀ xs' p, Das G xs' ((dsort eSpot (r.map (·.1))).map eSpot) → H p = none → Q (.ref p) (upd H p (.lst xs'))
theorem cr_sortD {r : Row} (few : r.length < 1000) (hc : X.calm = true) (hu : X.A.units + 65 < cLine) : CallR X (.builtin "sorted") (rSortD G r) := by
  intro pins s σ H vs us Q I rv h
  obtain ⟨a, rfl, ha, tu, e, q⟩ := h
  rw [Vals.ref1 rv]
  obtain ⟨hz, hs0, xs, kt, o, es, ep, ho, hx, hdat, hes, hnd⟩ := I.hok a _ ha
  have raw : s.heap.DictRaw a es ep := ⟨o, ho, hx, hdat⟩
  have lk : (r.map kvV).length = xs.length := Paired.length kt
  have le : es.size = xs.length := size_of_entries hes
  rw [List.length_map] at lk hz
  refine Calls.call_function_entry kind_sorted plain_sorted entry_sorted (args_sorted1 _) ?_
  unfold Builtin.«sorted»
  refine wpAny_bind (m := checkCount "sorted" 1 1 _) (wpAny_pure ?_)
  refine wpAny_bind (PySem.W.kdu_collect (A := X.A.in1) (KdlSrc.rawDict (es := es) (ep := ep) hs0) (show X.A.in1.handled = none from I.ok.hd hc) raw (by omega) fun h' tk acc hk hac => ?_)
  have gk : ∀ (j : Nat) (p : Pr), r[j]? = some p → ∃ b, acc[j]? = some (Value.ref b) ∧ G b = some (.tup ((kS p.1).map kV)) := fun j p hp => by
    have hjl : j < r.length := (List.getElem?_eq_some_iff.mp hp).1
    have hp' : (r.map kvV)[j]? = some (kvV p) := by rw [List.getElem?_map, hp] <;> rfl
    obtain ⟨y, hy, k1, k2, k3⟩ := LiI.paired_get kt hp'
    have he := entry_at hes j
    rw [hy] at he
    have hja : j < acc.size := by rw [hac.1]; omega
    obtain ⟨hi, ev⟩ := hac.2 j acc[j] (Array.getElem?_eq_getElem hja)
    have he' : es[j] = entryOfKey (tupleKind (mixKind X.prog X.w)) y := Option.some.inj ((Array.getElem?_eq_getElem hi).symm.trans he)
    refine ⟨y.2.1, ?_, tu _ _ rfl k2⟩
    rw [Array.getElem?_eq_getElem hja, ev, he'] <;> rfl
  have eb : EachIs (Bears G eSpot) acc.toList (r.map (·.1)) := each_get (by rw [List.length_map, Array.length_toList, hac.1]; omega) fun j b hb => by
    rw [List.getElem?_map] at hb
    obtain ⟨p, hp, rfl⟩ := Option.map_eq_some_iff.mp hb
    obtain ⟨c, h1, h2⟩ := gk j p hp
    exact ⟨.ref c, by rw [Array.getElem?_toList]; exact h1, .ref c, rfl, da_spot h2⟩
  have hlen : acc.toList.length = r.length := by rw [Array.length_toList, hac.1]; omega
  refine wpAny_bind (wpAny_newList ?_ (by rw [sizeLine_eq]; omega))
  have I2 : L2.Inv X pins σ H { s with heap := h', toks := tk } := I.kept (t' := tk) hk
  have hoL : (h'.push (seqObj "list" acc.toList.toArray 0)).get? h'.objs.size = some (seqObj "list" acc.toList.toArray 0) := Heap.get?_push_size _ rfl
  have old : ∀ b u, s.heap.get? b = some u → (h'.push (seqObj "list" acc.toList.toArray 0)).get? b = some u := fun b u g => Heap.get?_push_of_some _ (hk b u g)
  have rd0 := reads_of I e kind_spot.lay eb
  have rd : EachIs (fun v b => ∃ as, Reads (h'.push (seqObj "list" acc.toList.toArray 0)) v (eSpot b) as ∧ h'.objs.size ∉ as) acc.toList (r.map (·.1)) := rd0.mono fun v b ⟨as, rb⟩ => by
    refine ⟨as, PyProof.Rows.Reads.keeps (fun b u g => old b u g) rb, fun hm => ?_⟩
    rw [reads_bare rfl rb] at hm
    exact absurd hm (by simp)
  have hlz : (r.map (·.1)).length = acc.toList.length := eb.length.symm
  refine wpAny_bind (wpAny_holding (PySem.W.list_sort_data (s := { s with heap := h'.push (seqObj "list" acc.toList.toArray 0), toks := tk }) hoL eb rd (AllAlike.of kind_spot.alike) (sortable_spot _) (by rw [hlz, sizeLine_eq]; omega) (fun b _ => by have := kind_spot.dep b; show X.A.units + 1 + 1 + (eSpot b).depth < cLine; omega) fun out ho2 eo => ?_))
  obtain ⟨xs', v1, v2⟩ := of_bears eo
  obtain ⟨c, hcL⟩ := sortedHeap_at (vs := acc.toList) (out := out.toArray) hoL
  have hl' : xs'.length ≤ sizeLine := by
    rw [v1.length, ho2, hlz, sizeLine_eq]
    omega
  have hn : H h'.objs.size = none := I2.hok.fresh (Nat.le_refl _)
  have kp : ∀ b u, h'.get? b = some u → (sortedHeap (h'.push (seqObj "list" acc.toList.toArray 0)) h'.objs.size acc.toList out.toArray).get? b = some u := fun b u q1 => by
    have hlt := Heap.lt_size q1
    rw [sortedHeap_old (Nat.ne_of_lt hlt) (by rw [size_push']; exact Nat.lt_succ_of_lt hlt)]
    exact Heap.get?_push_of_some _ q1
  exact wpAny_pure ⟨_, rfl, .ref h'.objs.size, _, I2.laid (t' := tk) (o := .lst xs') kp (Nat.le_refl _) ⟨hl', out, c, v1, hcL⟩, rfl, q xs' _ v2 hn⟩
end
/-! ### rules -/
def optD : Option Int → PyData
  | some i => .int i
  | none => .none
section
variable {P : Program} {w : World} {K : PySem.W.Frag} {mg : Str → Option Value} {base : Heap} {k : Nat} {N : List Str} {sc own : Scope} {X : Cx} {T : Dom} {ρ ρ' : List (Option PyData)} {pos : Pos}
/-- dict(row), a new one -/
theorem ef_dict (C : At P w K mg base k N sc own X) (B : Bt mg) {p : Pos} {a : Expr} {r : Row} (ha : E X T ρ a (eRow r)) (hx : globOk sc "dict" = true := by decide +kernel) (hp : plainE a = true := by rfl) :
    ∀ σ H Q, Ok T ρ σ H → (∀ p H1, Same H H1 → H1 p = none → Q (.ref p) (upd H1 p (.dT ((dictS r).map kvV)))) → we X (.Call (.Name "dict" p) [a] [] pos) σ H Q := fun σ H Q ok q => by
  have cr : CallR X (.type "dict") (fun vs H Q => ∃ G, rDictG G r vs H Q) := fun pins s σ H vs us Q I rv ⟨G, h⟩ => cr_dictG C.calm (by have := C.units; omega) pins s σ H vs us Q I rv h
  refine we_callTy C cr hx B.dict (by decide +kernel) (by rw [List.all_cons, hp]; rfl) (one ha ok hp fun v H' e hv => ?_)
  obtain ⟨b, vs, o, rfl, h2, h3, h4⟩ := hv.row_inv
  exact ⟨hid T H', b, vs, o, rfl, hid_le _ _ h2, h3, h4, hid_le, fun p np => q p H' e np⟩
theorem e_dict (C : At P w K mg base k N sc own X) (B : Bt mg) {p : Pos} {a : Expr} {r : Row} (ha : E X T ρ a (eRow r)) (hx : globOk sc "dict" = true := by decide +kernel) (hp : plainE a = true := by rfl) : E X T ρ (.Call (.Name "dict" p) [a] [] pos) (eDict (dictS r)) := fun σ H Q ok q =>
  ef_dict C B ha hx hp σ H Q ok fun p H1 e np => q _ _ (same_new2 e np) (.dct (hid_new (ok.1.mono e) np))
theorem dget {H : Hp} {x y : V} {r : Row} {s : Spot} (hx : Da (hid T H) x (eDict r)) (hy : Da (hid T H) y (eSpot s)) : ∃ a, x = .ref a ∧ DGet H a y ((getS r s).map V.int) := by
  obtain ⟨a, rfl, ha⟩ := hx.dict_inv
  obtain ⟨b, rfl, hb⟩ := hy.spot_inv
  refine ⟨a, rfl, ?_⟩
  rw [← valV_kv]
  exact DGet.t (hid_le _ _ ha) (hid_le _ _ hb)
theorem op_inDct (hu : X.A.units + 1 < cLine) : OpR X (compareOp .In) (fun y x H Q => ∃ a o, x = .ref a ∧ DGet H a y o ∧ Q (.bl o.isSome) H) := by
  intro pins s σ H y x v u Q I ry rx h
  obtain ⟨a, o, rfl, g, q⟩ := h
  obtain rfl : u = Value.ref a := rx
  exact d_in hu I g ry fun s3 I3 => ⟨.bl o.isSome, H, I3, rfl, q⟩
theorem c_inD (C : At P w K mg base k N sc own X) {a b : Expr} {s : Spot} {r : Row} (ha : E X T ρ a (eSpot s)) (hb : E X T ρ b (eDict r)) : EC X T ρ .In a b (getS r s).isSome :=
  ⟨_, op_inDct (by have := C.units; omega), fun σ H Q ok q => two ha hb ok fun y x H' e hy hx => by
    obtain ⟨a, rfl, g⟩ := dget hx hy
    refine ⟨a, _, rfl, g, ?_⟩
    rw [Option.isSome_map]
    exact q H' e⟩
theorem e_ixD (C : At P w K mg base k N sc own X) {a b : Expr} {s : Spot} {r : Row} {n : Int} (ha : E X T ρ a (eDict r)) (hb : E X T ρ b (eSpot s)) (hn : getS r s = some n) (hs : NoSl b := by intro _ _; rfl) : E X T ρ (.Subscript a b pos) (.int n) := fun σ H Q ok q =>
  to_we (pe_dget (by have := C.units; omega) pe_we pe_we hs) (two ha hb ok fun x y H' e hx hy => by
    obtain ⟨a, rfl, g⟩ := dget hx hy
    rw [hn] at g
    exact ⟨a, .int n, rfl, g, q _ H' e (.int n)⟩)
theorem isD_of {H : Hp} {a : Addr} {r : Row} (h : hid T H a = some (.dT (r.map kvV))) : IsD H a := .inr ⟨_, .inl (hid_le _ _ h)⟩
theorem e_get1 (C : At P w K mg base k N sc own X) {a b : Expr} {s : Spot} {r : Row} {apos : Pos} (ha : E X T ρ a (eDict r)) (hb : E X T ρ b (eSpot s)) (m : M1 X a "get" apos b pos) : E X T ρ (.Call (.Attribute a "get" apos) [b] [] pos) (optD (getS r s)) := fun σ H Q ok q =>
  to_we (pe_dget1 (by have := C.units; omega) pe_we pe_we m) (ha σ H _ ok fun x H1 e1 hx => by
    obtain ⟨c, rfl, hc⟩ := hx.dict_inv
    refine ⟨c, rfl, isD_of hc, hb σ H1 _ (ok.same e1) fun y H2 e2 hy => ?_⟩
    obtain ⟨c', e, g⟩ := dget (hx.mono (same_hid e2)) hy
    cases e
    refine ⟨_, g, q _ H2 (e1.trans e2) ?_⟩
    cases getS r s with
    | none => exact .non
    | some i => exact .int i)
theorem e_get2 (C : At P w K mg base k N sc own X) {a b c : Expr} {s : Spot} {r : Row} {n : Int} {apos : Pos} (ha : E X T ρ a (eDict r)) (hb : E X T ρ b (eSpot s)) (hc : E X T ρ c (.int n)) (m : M2 X a "get" apos b c pos) : E X T ρ (.Call (.Attribute a "get" apos) [b, c] [] pos) (.int ((getS r s).getD n)) := fun σ H Q ok q =>
  to_we (pe_dget2 (by have := C.units; omega) pe_we pe_we pe_we m) (ha σ H _ ok fun x H1 e1 hx => by
    obtain ⟨c, rfl, hc'⟩ := hx.dict_inv
    refine ⟨c, rfl, isD_of hc', hb σ H1 _ (ok.same e1) fun y H2 e2 hy => hc σ H2 _ (ok.same (e1.trans e2)) fun z H3 e3 hz => ?_⟩
    obtain ⟨c', e, g⟩ := dget ((hx.mono (same_hid e2)).mono (same_hid e3)) (hy.mono (same_hid e3))
    cases e
    refine ⟨_, g, q _ H3 ((e1.trans e2).trans e3) ?_⟩
    cases hz
    cases getS r s with
    | none => exact .int n
    | some i => exact .int i)
theorem das_pairs {H H' : Hp} (k : TOk T H) (e : Same H H') : ∀ {r : Row} {xs : List V}, Paired (fun (v : V) (q : Pr) => ∃ t b, v = .ref t ∧ H t = none ∧ H' t = some (.tup [.ref b, .int q.2]) ∧ H b = some (.tup ((kS q.1).map kV))) xs r → Das (hid T H') xs (r.map ePair)
  | _, _, .nil => .nil
  | _, _, .cons h t => by
    obtain ⟨a, b, rfl, h1, h2, h3⟩ := h
    exact .cons (.tup (.tup (by rw [hid_no (k.not h1)]; exact h2)) (.cons (da_spot (same_hid e _ _ (tups_hid k _ _ rfl h3))) (.cons (.int _) .nil))) (das_pairs k e t)
theorem e_items (C : At P w K mg base k N sc own X) (B : Bt mg) {p apos cpos : Pos} {a : Expr} {r : Row} (ha : E X T ρ a (eDict r)) (hx : globOk sc "list" = true := by decide +kernel) (hbase : attributeBase a "items" X.env (eval a X.env) = eval a X.env := by rfl) (hline : (apos.endLine == cpos.line) = true := by rfl)
    (hs : starEach [.Call (.Attribute a "items" apos) [] [] cpos] X.env = (false, eval (.Call (.Attribute a "items" apos) [] [] cpos) X.env) :: starEach [] X.env := by rfl) :
    E X T ρ (.Call (.Name "list" p) [.Call (.Attribute a "items" apos) [] [] cpos] [] pos) (.list (r.map ePair)) := fun σ H Q ok q =>
  to_we (pe_itemsS C.calm pe_we (C.gl hx) (by rw [C.emg]; exact B.list) (by decide +kernel) hbase hline hs) (ha σ H _ ok fun x H1 e1 hx => by
    obtain ⟨c, rfl, hc⟩ := hx.dict_inv
    have k1 := ok.1.mono e1
    exact ⟨c, r, rfl, hid_le _ _ hc, fun H2 p xs e2 np hp hxs => q _ H2 (e1.trans e2) (.lst (by rw [hid_no (k1.not np)]; exact hp) (das_pairs k1 e2 hxs))⟩)
theorem e_sortD (C : At P w K mg base k N sc own X) (B : Bt mg) {p : Pos} {a : Expr} {r : Row} (ha : E X T ρ a (eDict r)) (few : r.length < 1000) (hx : globOk sc "sorted" = true := by decide +kernel) (hp : plainE a = true := by rfl) :
    E X T ρ (.Call (.Name "sorted" p) [a] [] pos) (.list ((dsort eSpot (r.map (·.1))).map eSpot)) := fun σ H Q ok q => by
  have cr : CallR X (.builtin "sorted") (fun vs H Q => ∃ G, rSortD G r vs H Q) := fun pins s σ H vs us Q I rv ⟨G, h⟩ => cr_sortD few C.calm C.units pins s σ H vs us Q I rv h
  refine we_callB C cr hx B.sorted (by decide +kernel) (by rw [List.all_cons, hp]; rfl) (one ha ok hp fun v H' e hv => ?_)
  obtain ⟨b, rfl, h2⟩ := hv.dict_inv
  have k1 := ok.1.mono e
  exact ⟨hid T H', b, rfl, hid_le _ _ h2, tups_hid k1, hid_le, fun xs' p h4 np => q _ _ (same_new2 e np) (.lst (hid_new k1 np) (h4.mono (same_hid (same_new np))))⟩
end
end Sk
set_option maxHeartbeats 8000000
/-! SkN: things of one's own that change (lists, dicts, the source of draws); judgements with many outcomes. -/
namespace Sk
open PySem PySem.Spec PyProof.Rows L2 PySem.W

inductive OD where
  | lst (ds : List PyData)
  | dct (r : Row)
  | tin (n : Nat)
def OD.isTin : OD → Prop
  | .tin _ => True
  | _ => False
def OAtU (G : Hp) (u : HO) : OD → Prop
  | .lst ds => ∃ xs, u = .lst xs ∧ Das G xs ds
  | .dct r => u = .dT (r.map kvV)
  | .tin n => ∃ a b c : Int, u = .lst [.int a, .int b, .int c] ∧ 0 ≤ a ∧ 0 ≤ b ∧ b < 2 ^ 62 ∧ 0 ≤ c ∧ c ≤ n
/-- a slot and the address that stands in it -/
abbrev Own := Nat × Addr
def HT (T : Dom) (ps : List Own) : Dom := fun a => T a ∨ ∃ p ∈ ps, p.2 = a
theorem HT_nil (T : Dom) : HT T [] = T := by
  funext a
  exact propext ⟨fun h => h.elim id fun ⟨p, h, _⟩ => (by simp at h), fun h => Or.inl h⟩
def OOk (T : Dom) (ps : List Own) (σ : L2.St) (H : Hp) (p : Own) (o : OD) : Prop := σ[p.1]? = some (some (.ref p.2)) ∧ (T p.2 ↔ o.isTin) ∧ ∃ u, H p.2 = some u ∧ OAtU (hid (HT T ps) H) u o
structure SS (T : Dom) (ps : List Own) (ρ : List (Option PyData)) (os : List OD) (σ : L2.St) (H : Hp) : Prop where
  ok : Ok (HT T ps) ρ σ H
  own : EachIs (OOk T ps σ H) ps os
  nd : (ps.map (·.2)).Nodup
def ExO (ps : List Own) (H H' : Hp) : Prop := ∀ a o, (∀ p ∈ ps, p.2 ≠ a) → H a = some o → H' a = some o
section
variable {T : Dom} {ps : List Own} {ρ ρ' : List (Option PyData)} {os : List OD} {σ σ' : L2.St} {H H' H2 G G' : Hp}
theorem OAtU.mono {u : HO} {o : OD} (e : Same G G') (h : OAtU G u o) : OAtU G' u o := by
  cases o with
  | lst ds => exact let ⟨xs, h1, h2⟩ := h; ⟨xs, h1, h2.mono e⟩
  | dct r => exact h
  | tin n => exact h
theorem OAtU.tup {u : HO} {o : OD} (h : OAtU G u o) : tupO u = false := by
  cases o with
  | lst ds => obtain ⟨xs, rfl, _⟩ := h; rfl
  | dct r => cases h; rfl
  | tin n => obtain ⟨a, b, c, rfl, _⟩ := h; rfl
theorem ExO.refl : ExO ps H H := fun _ _ _ h => h
theorem ExO.trans (x : ExO ps H H') (y : ExO ps H' H2) : ExO ps H H2 := fun a o n h => y a o n (x a o n h)
theorem ExO.of (e : Same H H') : ExO ps H H' := fun a o _ h => e a o h
theorem exo_hid (e : ExO ps H H') : Same (hid (HT T ps) H) (hid (HT T ps) H') := fun a o h => by
  obtain ⟨t, h⟩ := hid_some h
  rw [hid_no t]
  exact e a o (fun p hp z => t (.inr ⟨p, hp, z⟩)) h
theorem SS.same (s : SS T ps ρ os σ H) (e : Same H H') : SS T ps ρ os σ H' :=
  ⟨s.ok.same e, s.own.mono fun p o ⟨h1, h2, u, h3, h4⟩ => ⟨h1, h2, u, e _ _ h3, h4.mono (same_hid e)⟩, s.nd⟩
theorem SS.less (s : SS T ps ρ os σ H) (hl : ρ'.length = ρ.length) (h : ∀ (i : Nat) d, ρ'[i]? = some (some d) → ρ[i]? = some (some d)) : SS T ps ρ' os σ H := ⟨⟨s.ok.1, s.ok.2.less hl h⟩, s.own, s.nd⟩
/-- another slot is written -/
theorem SS.slots (s : SS T ps ρ os σ H) (ok : Ok (HT T ps) ρ' σ' H) (h : ∀ p ∈ ps, σ'[p.1]? = σ[p.1]?) : SS T ps ρ' os σ' H := by
  refine ⟨ok, ?_, s.nd⟩
  have key : ∀ {qs : List Own} {os : List OD}, EachIs (OOk T ps σ H) qs os → (∀ p ∈ qs, σ'[p.1]? = σ[p.1]?) → EachIs (OOk T ps σ' H) qs os := by
    intro qs os x
    induction x with
    | nil => exact fun _ => .nil
    | cons h t ih => exact fun z => .cons ⟨by rw [z _ List.mem_cons_self]; exact h.1, h.2⟩ (ih fun p hp => z p (List.mem_cons_of_mem _ hp))
  exact key s.own h
theorem SS.at (s : SS T ps ρ os σ H) {j : Nat} {p : Own} (hp : ps[j]? = some p) : ∃ o, os[j]? = some o ∧ OOk T ps σ H p o := by
  have key : ∀ {qs : List Own} {os : List OD} {j : Nat}, EachIs (OOk T ps σ H) qs os → qs[j]? = some p → ∃ o, os[j]? = some o ∧ OOk T ps σ H p o := by
    intro qs os j x
    induction x generalizing j with
    | nil => intro h; simp at h
    | cons h t ih =>
      intro e
      cases j with
      | zero => cases (Option.some.inj e); exact ⟨_, rfl, h⟩
      | succ j => exact ih (by simpa using e)
  exact key s.own hp
/-- one's own thing is changed -/
theorem SS.upd (s : SS T ps ρ os σ H) {j : Nat} {p : Own} {o o' : OD} {u : HO} (hp : ps[j]? = some p) (ho : os[j]? = some o) (k : o'.isTin ↔ o.isTin) (hu : OAtU (hid (HT T ps) H) u o') : SS T ps ρ (os.set j o') σ (L2.upd H p.2 u) := by
  have hm : HT T ps p.2 := .inr ⟨p, List.mem_of_getElem? hp, rfl⟩
  have e : Same (hid (HT T ps) H) (hid (HT T ps) (L2.upd H p.2 u)) := (sameT_upd hm).hid
  refine ⟨s.ok.upd hm hu.tup, ?_, s.nd⟩
  have key : ∀ {qs : List Own} {os : List OD} {j : Nat}, EachIs (OOk T ps σ H) qs os → (qs.map (·.2)).Nodup → qs[j]? = some p → os[j]? = some o → EachIs (OOk T ps σ (L2.upd H p.2 u)) qs (os.set j o') := by
    intro qs os j x
    have off : ∀ {qs : List Own} {os : List OD}, EachIs (OOk T ps σ H) qs os → (∀ q ∈ qs, q.2 ≠ p.2) → EachIs (OOk T ps σ (L2.upd H p.2 u)) qs os := by
      intro qs os x
      induction x with
      | nil => exact fun _ => .nil
      | cons h t ih =>
        intro z
        obtain ⟨h1, h2, v, h3, h4⟩ := h
        exact .cons ⟨h1, h2, v, by rw [upd_ne (z _ List.mem_cons_self)]; exact h3, h4.mono e⟩ (ih fun q hq => z q (List.mem_cons_of_mem _ hq))
    induction x generalizing j with
    | nil => intro _ h; simp at h
    | cons h t ih =>
      intro nd e1 e2
      rw [List.map_cons, List.nodup_cons] at nd
      cases j with
      | zero =>
        cases (Option.some.inj e1)
        cases (Option.some.inj e2)
        obtain ⟨h1, h2, v, h3, h4⟩ := h
        refine .cons ⟨h1, h2.trans k.symm, u, upd_same, hu.mono e⟩ (off t fun q hq z => nd.1 (List.mem_map.mpr ⟨q, hq, z⟩))
      | succ j =>
        rw [List.getElem?_cons_succ] at e1 e2
        obtain ⟨h1, h2, v, h3, h4⟩ := h
        refine .cons ⟨h1, h2, v, ?_, h4.mono e⟩ (ih nd.2 e1 e2)
        rw [upd_ne]
        · exact h3
        · intro z
          exact nd.1 (by rw [z]; exact List.mem_map.mpr ⟨p, List.mem_of_getElem? e1, rfl⟩)
  exact key s.own s.nd hp ho
theorem exo_upd {p : Own} {u : HO} (hp : p ∈ ps) : ExO ps H (L2.upd H p.2 u) := fun a o n h => by
  rw [upd_ne fun z => n p hp z.symm]
  exact h
/-- what one's own things say, told as data -/
def fill (ρ : List (Option PyData)) : List Own → List OD → List (Option PyData)
  | p :: ps, .lst ds :: os => (fill ρ ps os).set p.1 (some (.list ds))
  | p :: ps, .dct r :: os => (fill ρ ps os).set p.1 (some (eDict r))
  | _ :: ps, .tin _ :: os => fill ρ ps os
  | _, _ => ρ
theorem SD.tell {v : V} {d : PyData} {i : Nat} (x : SD ρ σ G) (h1 : σ[i]? = some (some v)) (h : Da G v d) : SD (ρ.set i (some d)) σ G := by
  refine ⟨by rw [List.length_set]; exact x.1, fun j e hj => ?_⟩
  by_cases z : i = j
  · subst z
    have hl : i < (ρ.set i (some d)).length := (List.getElem?_eq_some_iff.mp hj).1
    rw [List.length_set] at hl
    rw [List.getElem?_set_self hl] at hj
    cases hj
    exact ⟨v, h1, h⟩
  · rw [List.getElem?_set_ne z] at hj
    exact x.2 j e hj
theorem HT_sub (a : Addr) (t : T a) : HT T ps a := .inl t
theorem SS.fill (s : SS T ps ρ os σ H) : Ok T (fill ρ ps os) σ H := by
  refine ⟨fun a t => s.ok.1 a (.inl t), ?_⟩
  have base : SD ρ σ (hid T H) := s.ok.2.mono (hid_hid HT_sub)
  have key : ∀ {qs : List Own} {os : List OD}, EachIs (OOk T ps σ H) qs os → SD (Sk.fill ρ qs os) σ (hid T H) := by
    intro qs os x
    induction x with
    | nil => exact base
    | cons h t ih =>
      rename_i p o qs os
      obtain ⟨h1, h2, u, h3, h4⟩ := h
      cases o with
      | lst ds =>
        obtain ⟨xs, rfl, hx⟩ := h4
        exact ih.tell h1 (.lst (by rw [hid_no fun z => h2.mp z]; exact h3) (hx.mono (hid_hid HT_sub)))
      | dct r =>
        cases h4
        exact ih.tell h1 (.dct (by rw [hid_no fun z => h2.mp z]; exact h3))
      | tin n => exact ih
  exact key s.own
end

/-! ### judgements -/
section
variable (X : Cx) (T : Dom) (ps : List Own) (ρ : List (Option PyData)) (os : List OD)
def XE (e : Expr) (Φ : PyData → List OD → Prop) : Prop :=
  ∀ σ H Q, SS T ps ρ os σ H → (∀ v H' d os', Φ d os' → ExO ps H H' → SS T ps ρ os' σ H' → Da (hid (HT T ps) H') v d → Q v H') → we X e σ H Q
def XA (es : List Expr) (Φ : List PyData → List OD → Prop) : Prop :=
  ∀ σ H Q, SS T ps ρ os σ H → (∀ vs H' ds os', Φ ds os' → ExO ps H H' → SS T ps ρ os' σ H' → Das (hid (HT T ps) H') vs ds → Q vs H') → wa X es σ H Q
def XT (e : Expr) (Φ : Bool → List OD → Prop) : Prop :=
  ∀ σ H Q, SS T ps ρ os σ H → (∀ b H' os', Φ b os' → ExO ps H H' → SS T ps ρ os' σ H' → Q b H') → wt X e σ H Q
def XI (tg it : Expr) (Φ : List PyData → List OD → Prop) : Prop :=
  ∀ σ H R, SS T ps ρ os σ H → (∀ H1 (J : It) (G : Hp → Prop) (Y : Nat → Hp → V → Hp → Prop) xs os', Φ xs os' → ExO ps H H1 → SS T ps ρ os' σ H1 → Walk J xs.length G Y → (∀ (T2 : Dom) H2, Same (hid (HT T ps) H1) (hid T2 H2) → G H2) →
    (∀ (T2 : Dom) i H2 x H3, Same (hid (HT T ps) H1) (hid T2 H2) → TOk T2 H2 → Y i H2 x H3 → Same H2 H3 ∧ ∃ d, xs[i]? = some d ∧ Da (hid T2 H3) x d) → R J H1) → wi X tg it σ H R
inductive Res where
  | rt (d : PyData) (os : List OD)
  | nx (ρ : List (Option PyData)) (os : List OD)
def XB (sts : List Stmt) (Φ : Res → Prop) : Prop :=
  ∀ σ H D, SS T ps ρ os σ H → (∀ d os', Φ (.rt d os') → ∀ v σ' H' ρ', ExO ps H H' → SS T ps ρ' os' σ' H' → Da (hid T H') v d → D.rt v H') →
    (∀ ρ' os', Φ (.nx ρ' os') → ∀ σ' H', ExO ps H H' → SS T ps ρ' os' σ' H' → D.nx σ' H') → wss X sts D σ H
end
section
variable {P : Program} {w : World} {K : PySem.W.Frag} {mg : Str → Option Value} {base : Heap} {k : Nat} {N : List Str} {sc own : Scope} {X : Cx} {T : Dom} {ps : List Own} {ρ ρ' : List (Option PyData)} {os : List OD} {pos : Pos}
variable {Φ Ψ : PyData → List OD → Prop} {ΦT : Bool → List OD → Prop}
theorem XE.mono {e : Expr} (h : XE X T ps ρ os e Φ) (m : ∀ d os', Φ d os' → Ψ d os') : XE X T ps ρ os e Ψ := fun σ H Q s q => h σ H Q s fun v H' d os' f => q v H' d os' (m d os' f)
/-- an expression that changes nothing -/
theorem x_of {e : Expr} {d : PyData} (h : E X (HT T ps) ρ e d) (f : Φ d os) : XE X T ps ρ os e Φ := fun σ H Q s q => h σ H Q s.ok fun v H' e hv => q v H' d os f (.of e) (s.same e) hv
/-- .. that may read one's own things -/
theorem x_ofF {e : Expr} {d : PyData} (h : E X T (fill ρ ps os) e d) (hf : flat d = true) (f : Φ d os) : XE X T ps ρ os e Φ := fun σ H Q s q => h σ H Q s.fill fun v H' e hv => q v H' d os f (.of e) (s.same e) (by
  have h1 : Da H' v d := hv.mono hid_le
  exact Da.tups (tups_hid (s.same e).ok.1) hf h1)
theorem t_of {e : Expr} {b : Bool} (h : ET X (HT T ps) ρ e b) (f : ΦT b os) : XT X T ps ρ os e ΦT := fun σ H Q s q => h σ H Q s.ok fun H' e => q b H' os f (.of e) (s.same e)
theorem t_ofF {e : Expr} {b : Bool} (h : ET X T (fill ρ ps os) e b) (f : ΦT b os) : XT X T ps ρ os e ΦT := fun σ H Q s q => h σ H Q s.fill fun H' e => q b H' os f (.of e) (s.same e)
theorem i_of {tg it : Expr} {xs : List PyData} {ΦI : List PyData → List OD → Prop} (h : IT X (HT T ps) ρ tg it xs) (f : ΦI xs os) : XI X T ps ρ os tg it ΦI := fun σ H R s q =>
  h σ H R s.ok fun H1 J G Y e W hG hY => q H1 J G Y xs os f (.of e) (s.same e) W hG hY
/-! ### arguments -/
variable {ΦA : List PyData → List OD → Prop}
theorem xa_nil (f : ΦA [] os) : XA X T ps ρ os [] ΦA := fun σ H Q s q => to_wa pa_nil (q [] H [] os f .refl s .nil)
theorem xa_cons {e : Expr} {es : List Expr} (h : XE X T ps ρ os e Φ) (hs : ∀ d os1, Φ d os1 → XA X T ps ρ os1 es (fun ds os2 => ΦA (d :: ds) os2)) (hp : plainE e = true := by rfl) : XA X T ps ρ os (e :: es) ΦA := fun σ H Q s q =>
  to_wa (pa_cons pe_we pa_wa (star_plain hp)) (h σ H _ s fun v H1 d os1 f1 e1 s1 h1 => hs d os1 f1 σ H1 _ s1 fun vs H2 ds os2 f2 e2 s2 h2 => q _ H2 _ os2 f2 (e1.trans e2) s2 (.cons (h1.mono (exo_hid e2)) h2))
theorem xa_of {es : List Expr} {ds : List PyData} (h : EA X (HT T ps) ρ es ds) (f : ΦA ds os) : XA X T ps ρ os es ΦA := fun σ H Q s q => h σ H Q s.ok fun vs H' e hv => q vs H' ds os f (.of e) (s.same e) hv
/-! ### expressions -/
theorem x_tup {es : List Expr} {j : Nat} (h : XA X T ps ρ os es (fun ds os' => ds.length ≤ 1000 ∧ Φ (.tuple ds) os')) : XE X T ps ρ os (.Tuple es j pos) Φ := fun σ H Q s q =>
  to_we (pe_tupN pa_wa) (h σ H _ s fun vs H1 ds os1 f e1 s1 h1 => ⟨by rw [h1.length]; exact Nat.le_of_lt (small1000 f.1), newT_of s1.ok.1 h1 fun p u np d => q _ _ _ os1 f.2 (e1.trans (.of (same_new np))) (s1.same (same_new np)) d⟩)
/-- two values, the second read behind the first -/
theorem x_two {a b : Expr} {σ : L2.St} {H : Hp} {R : V → V → Hp → Prop} (ha : XE X T ps ρ os a Φ) (hb : ∀ d os1, Φ d os1 → XE X T ps ρ os1 b (fun e os2 => Ψ (.tuple [d, e]) os2)) (s : SS T ps ρ os σ H)
    (h : ∀ x y H' d e os', Ψ (.tuple [d, e]) os' → ExO ps H H' → SS T ps ρ os' σ H' → Da (hid (HT T ps) H') x d → Da (hid (HT T ps) H') y e → R x y H') : we X a σ H fun x H1 => we X b σ H1 fun y H2 => R x y H2 :=
  ha σ H _ s fun x H1 d os1 f1 e1 s1 h1 => hb d os1 f1 σ H1 _ s1 fun y H2 e os2 f2 e2 s2 h2 => h x y H2 d e os2 f2 (e1.trans e2) s2 (h1.mono (exo_hid e2)) h2
theorem x_add {a b : Expr} (ha : XE X T ps ρ os a Ψ) (hb : ∀ d os1, Ψ d os1 → XE X T ps ρ os1 b (fun e os2 => ∃ i j, d = .int i ∧ e = .int j ∧ Φ (.int (i + j)) os2)) : XE X T ps ρ os (.BinOp a .Add b pos) Φ := fun σ H Q s q =>
  we_op op_add (ha σ H _ s fun x H1 d os1 f1 e1 s1 h1 => hb d os1 f1 σ H1 _ s1 fun y H2 e os2 f2 e2 s2 h2 => by
    obtain ⟨i, j, rfl, rfl, f⟩ := f2
    exact ⟨i, j, h1.int_inv, h2.int_inv, q _ H2 _ os2 f (e1.trans e2) s2 (.int _)⟩)
theorem x_sub {a b : Expr} (ha : XE X T ps ρ os a Ψ) (hb : ∀ d os1, Ψ d os1 → XE X T ps ρ os1 b (fun e os2 => ∃ i j, d = .int i ∧ e = .int j ∧ Φ (.int (i - j)) os2)) : XE X T ps ρ os (.BinOp a .Sub b pos) Φ := fun σ H Q s q =>
  we_op op_sub (ha σ H _ s fun x H1 d os1 f1 e1 s1 h1 => hb d os1 f1 σ H1 _ s1 fun y H2 e os2 f2 e2 s2 h2 => by
    obtain ⟨i, j, rfl, rfl, f⟩ := f2
    exact ⟨i, j, h1.int_inv, h2.int_inv, q _ H2 _ os2 f (e1.trans e2) s2 (.int _)⟩)
/-- list + list -/
theorem x_catL {a b : Expr} (ha : XE X T ps ρ os a Ψ) (hb : ∀ d os1, Ψ d os1 → XE X T ps ρ os1 b (fun e os2 => ∃ ds es, d = .list ds ∧ e = .list es ∧ ds.length + es.length ≤ 1000 ∧ Φ (.list (ds ++ es)) os2)) : XE X T ps ρ os (.BinOp a .Add b pos) Φ := fun σ H Q s q =>
  we_op op_cat (ha σ H _ s fun x H1 d os1 f1 e1 s1 h1 => hb d os1 f1 σ H1 _ s1 fun y H2 e os2 f2 e2 s2 h2 => by
    obtain ⟨ds, es, rfl, rfl, hl, f⟩ := f2
    obtain ⟨p, vs, rfl, hp, hvs⟩ := (h1.mono (exo_hid e2)).lst_inv
    obtain ⟨r, us, rfl, hr, hus⟩ := h2.lst_inv
    exact ⟨p, r, vs, us, rfl, rfl, hid_le _ _ hp, hid_le _ _ hr, by rw [hvs.length, hus.length]; exact Nat.le_of_lt (small1000 hl), fun n nn => q _ _ _ os2 f ((e1.trans e2).trans (.of (same_new nn))) (s2.same (same_new nn)) (.lst (hid_new s2.ok.1 nn) ((hvs.append hus).mono (same_hid (same_new nn))))⟩)
/-- t[i], l[i] of data that are not one's own -/
theorem x_ix {a b : Expr} {d0 : PyData} {ds : List PyData} (ha : E X (HT T ps) ρ a d0) (hd : d0 = .tuple ds ∨ d0 = .list ds) (hb : XE X T ps ρ os b (fun e os2 => ∃ (j : Nat) (d : PyData), e = .int (j : Int) ∧ ds[j]? = some d ∧ Φ d os2)) (hs : PlainIx b := by intro _ _; rfl) : XE X T ps ρ os (.Subscript a b pos) Φ := fun σ H Q s q =>
  we_ix (ix_tup.or ix_list) (ha σ H _ s.ok fun x H1 e1 h1 => hb σ H1 _ (s.same e1) fun y H2 e os2 f2 e2 s2 h2 => by
    obtain ⟨j, d, rfl, hj, f⟩ := f2
    obtain ⟨p, vs, rfl, hp, hvs⟩ := (h1.mono (exo_hid e2)).seq hd
    obtain ⟨v, hv, dv⟩ := hvs.get hj
    have fin := q v H2 d os2 f (ExO.trans (.of e1) e2) s2 dv
    rcases hp with hp | hp
    · exact .inl ⟨p, vs, _, v, rfl, h2.int_inv, seqT hp, atI_nat hv, fin⟩
    · exact .inr ⟨p, vs, _, v, rfl, h2.int_inv, seqL hp, atI_nat hv, fin⟩) hs
/-- l[:n] -/
theorem x_takeL {a b : Expr} {ds : List PyData} {p2 : Pos} (ha : E X (HT T ps) ρ a (.list ds)) (hb : XE X T ps ρ os b (fun e os2 => ∃ (j : Nat), e = .int (j : Int) ∧ Φ (.list (ds.take j)) os2)) : XE X T ps ρ os (.Subscript a (.Slice none (some b) none p2) pos) Φ := fun σ H Q s q =>
  to_we (pe_slice sl_list pe_we po_none (po_some pe_we)) (ha σ H _ s.ok fun v H1 e1 h1 => hb σ H1 _ (s.same e1) fun w H2 e os2 f2 e2 s2 h2 => by
    obtain ⟨j, rfl, f⟩ := f2
    refine ⟨_, h2.int_inv, ?_⟩
    obtain ⟨p, vs, rfl, hp, hvs⟩ := (h1.mono (exo_hid e2)).lst_inv
    exact ⟨p, vs, rfl, seqL hp, fun n nn => q _ _ _ os2 f ((ExO.trans (.of e1) e2).trans (.of (same_new nn))) (s2.same (same_new nn)) (.lst (hid_new s2.ok.1 nn) ((cut_is vs ds hvs none (some j)).mono (same_hid (same_new nn))))⟩)
/-- one argument -/
theorem x_one {a : Expr} {σ : L2.St} {H : Hp} {Q : List V → Hp → Prop} (h : XE X T ps ρ os a Φ) (s : SS T ps ρ os σ H) (hp : plainE a = true) (q : ∀ v H' d os', Φ d os' → ExO ps H H' → SS T ps ρ os' σ H' → Da (hid (HT T ps) H') v d → Q [v] H') : wa X [a] σ H Q :=
  (xa_cons (ΦA := fun ds os' => ∃ d, ds = [d] ∧ Φ d os') h (fun d os1 f => xa_nil ⟨d, rfl, f⟩) hp) σ H Q s fun vs H' ds os' ⟨d, e, f⟩ e1 s1 hv => by
    subst e
    cases hv with
    | cons h1 h2 =>
      cases h2
      exact q _ H' d os' f e1 s1 h1
theorem x_tuple (C : At P w K mg base k N sc own X) (B : Bt mg) {p : Pos} {a : Expr} (ha : XE X T ps ρ os a (fun d os' => ∃ ds, d = .list ds ∧ Φ (.tuple ds) os')) (hx : globOk sc "tuple" = true := by decide +kernel) (hp : plainE a = true := by rfl) : XE X T ps ρ os (.Call (.Name "tuple" p) [a] [] pos) Φ := fun σ H Q s q =>
  we_callTy C call_tuple_ofN hx B.tuple (by decide +kernel) (by rw [List.all_cons, hp]; rfl) (x_one ha s hp fun v H' d os' ⟨ds, ed, f⟩ e s' hv => by
    subst ed
    obtain ⟨b, vs, rfl, h2, h3⟩ := hv.lst_inv
    exact ⟨b, vs, rfl, .inl ⟨seqL h2, newT_of s'.ok.1 h3 fun l u nl d => q _ _ _ os' f (e.trans (.of (same_new nl))) (s'.same (same_new nl)) d⟩⟩)
theorem x_int (C : At P w K mg base k N sc own X) (B : Bt mg) {p : Pos} {a : Expr} (ha : XE X T ps ρ os a (fun d os' => (∃ i, d = .int i ∧ Φ (.int i) os') ∨ ∃ b, d = .bool b ∧ Φ (.int (if b then 1 else 0)) os')) (hx : globOk sc "int" = true := by decide +kernel) (hp : plainE a = true := by rfl) : XE X T ps ρ os (.Call (.Name "int" p) [a] [] pos) Φ := fun σ H Q s q =>
  we_callTy C call_int1 hx B.int (by decide +kernel) (by rw [List.all_cons, hp]; rfl) (x_one ha s hp fun v H' d os' f e s' hv => by
    rcases f with ⟨i, rfl, f⟩ | ⟨b, rfl, f⟩
    · exact .inl ⟨i, by rw [hv.int_inv], q _ H' _ os' f e s' (.int _)⟩
    · exact .inr ⟨b, by rw [hv.bool_inv], q _ H' _ os' f e s' (.int _)⟩)
theorem x_sorted (C : At P w K mg base k N sc own X) (B : Bt mg) {p : Pos} {a : Expr} {α : Type} {en : α → PyData} (kd : Kind en) (ha : XE X T ps ρ os a (fun d os' => ∃ ys : List α, d = .list (ys.map en) ∧ Sortable (ys.map en) ∧ Φ (.list ((dsort en ys).map en)) os')) (hx : globOk sc "sorted" = true := by decide +kernel) (hp : plainE a = true := by rfl) :
    XE X T ps ρ os (.Call (.Name "sorted" p) [a] [] pos) Φ := fun σ H Q s q => by
  have cr : CallR X (.builtin "sorted") (fun vs H Q => ∃ (G : Hp) (ys : List α), Sortable (ys.map en) ∧ rSortedG G en ys vs H Q) := fun pins s σ H vs us Q I rv ⟨G, ys, hs, h⟩ => cr_sortedG kd hs C.units pins s σ H vs us Q I rv h
  refine we_callB C cr hx B.sorted (by decide +kernel) (by rw [List.all_cons, hp]; rfl) (x_one ha s hp fun v H' d os' ⟨ys, ed, hs, f⟩ e s' hv => ?_)
  subst ed
  obtain ⟨b, vs, rfl, h2, h3⟩ := hv.lst_inv
  exact ⟨hid (HT T ps) H', ys, hs, b, vs, rfl, hid_le _ _ h2, h3, hid_le, fun xs' l h4 nl => q _ _ _ os' f (e.trans (.of (same_new nl))) (s'.same (same_new nl)) (.lst (hid_new s'.ok.1 nl) (h4.mono (same_hid (same_new nl))))⟩
/-- e == 0, e > 0 as values and tests -/
theorem x_cmpI {op : CmpOp} {g : Int → Int → Bool} {a b : Expr} {j : Int} (ho : OpR X (compareOp op) (rI0 fun i j => .bl (g i j))) (hb : E X (HT T ps) ρ b (.int j)) (ha : XE X T ps ρ os a (fun d os' => ∃ i, d = .int i ∧ Φ (.bool (g i j)) os')) (hm : behindInMarks op b = false := by first | exact nomark _ | rfl) : XE X T ps ρ os (.Compare a [op] [b] pos) Φ := fun σ H Q s q =>
  we_cmp ho hm (ha σ H _ s fun x H1 d os1 ⟨i, ed, f⟩ e1 s1 h1 => hb σ H1 _ s1.ok fun y H2 e2 h2 => by
    subst ed
    exact ⟨i, j, h1.int_inv, h2.int_inv, q _ H2 _ os1 f (e1.trans (.of e2)) (s1.same e2) (.bl _)⟩)
end
end Sk
set_option maxHeartbeats 8000000
/-! SkO: blocks over one's own things, comprehensions that draw, defs that draw. -/
namespace Sk
open PySem PySem.Spec PyProof.Rows L2 PySem.W
section
variable {T : Dom} {ps : List Own} {ρ ρ' : List (Option PyData)} {os os' : List OD} {σ σ' : L2.St} {H H' H2 G G' : Hp}
/-- one's own thing at p has changed, new things may be there -/
theorem SS.move (s : SS T ps ρ os σ H) {j : Nat} {p : Own} {o o' : OD} {u : HO} (hp : ps[j]? = some p) (ho : os[j]? = some o) (k : o'.isTin ↔ o.isTin) (e : ∀ a x, a ≠ p.2 → H a = some x → H' a = some x) (hu : H' p.2 = some u) (hv : OAtU (hid (HT T ps) H) u o') :
    SS T ps ρ (os.set j o') σ H' := by
  have s1 := s.upd hp ho k hv
  have e1 : Same (L2.upd H p.2 u) H' := fun a x h => by
    by_cases z : a = p.2
    · rw [z, upd_same] at h
      cases h
      rw [z]; exact hu
    · rw [upd_ne z] at h
      exact e a x z h
  exact s1.same e1
/-- back to the slots of before -/
theorem SS.back (s : SS T ps ρ os σ H) (s5 : SS T ps ρ' os' σ' H') (e : ExO ps H H') (hσ : ∀ p ∈ ps, σ'[p.1]? = σ[p.1]?) : SS T ps ρ os' σ H' :=
  SS.slots s5 ⟨s5.ok.1, s.ok.2.mono (exo_hid e)⟩ fun p hp => (hσ p hp).symm
/-- a new thing of one's own, at p, in the slot i -/
theorem SS.with (s : SS T ps ρ os σ H) {i : Nat} {p : Addr} {u : HO} {o : OD} (np : H p = none) (hu : OAtU (hid (HT T ps) H) u o) (nt : ¬ o.isTin) (hi : ∀ q ∈ ps, q.1 ≠ i) (hl : i < ρ.length) : SS T ((i, p) :: ps) (ρ.set i none) (o :: os) (σ.set i (some (.ref p))) (L2.upd H p u) := by
  have hsub : Same (hid (HT T ps) H) (hid (HT T ((i, p) :: ps)) (L2.upd H p u)) := fun a x h => by
    obtain ⟨t, h⟩ := hid_some h
    have ne : a ≠ p := ne_of_none h np
    rw [hid_no fun z => ?_, upd_ne ne]
    · exact h
    · rcases z with z | ⟨q, hq, z⟩
      · exact t (.inl z)
      · rcases List.mem_cons.mp hq with e | hq
        · subst e; exact ne z.symm
        · exact t (.inr ⟨q, hq, z⟩)
  refine ⟨⟨fun a t => ?_, ?_⟩, .cons ⟨?_, ⟨fun t => ?_, fun z => absurd z nt⟩, u, upd_same, hu.mono hsub⟩ ?_, ?_⟩
  · by_cases e : a = p
    · rw [e]; exact ⟨u, upd_same, hu.tup⟩
    · rw [upd_ne e]
      refine s.ok.1 a ?_
      rcases t with t | ⟨q, hq, z⟩
      · exact .inl t
      · rcases List.mem_cons.mp hq with e' | hq
        · subst e'; exact absurd z.symm e
        · exact .inr ⟨q, hq, z⟩
  · exact (s.ok.2.mono hsub).put i _
  · exact List.getElem?_set_self (by rw [s.ok.2.1]; exact hl)
  · obtain ⟨x, h1, _⟩ := s.ok.1 p (.inl t)
    rw [np] at h1; cases h1
  · have key : ∀ {qs : List Own} {os : List OD}, EachIs (OOk T ps σ H) qs os → (∀ q ∈ qs, q.1 ≠ i) → EachIs (OOk T ((i, p) :: ps) (σ.set i (some (.ref p))) (L2.upd H p u)) qs os := by
      intro qs os x
      induction x with
      | nil => exact fun _ => .nil
      | cons h t ih =>
        intro z
        obtain ⟨h1, h2, v, h3, h4⟩ := h
        refine .cons ⟨?_, h2, v, ?_, h4.mono hsub⟩ (ih fun q hq => z q (List.mem_cons_of_mem _ hq))
        · rw [List.getElem?_set_ne fun e => z _ List.mem_cons_self e.symm]; exact h1
        · rw [upd_ne (ne_of_none h3 np)]; exact h3
    exact key s.own hi
  · rw [List.map_cons, List.nodup_cons]
    refine ⟨fun z => ?_, s.nd⟩
    obtain ⟨q, hq, e⟩ := List.mem_map.mp z
    obtain ⟨j, hj⟩ := List.mem_iff_getElem?.mp hq
    obtain ⟨o2, _, _, _, v, h3, _⟩ := s.at hj
    rw [e] at h3
    have e2 : H p = some v := h3
    rw [np] at e2; cases e2
/-- the first of one's own things let go -/
theorem SS.drop {q : Own} {o : OD} (s : SS T (q :: ps) ρ (o :: os) σ H) : SS T ps ρ os σ H := by
  have hsub : Same (hid (HT T (q :: ps)) H) (hid (HT T ps) H) := hid_hid fun a t => by
    rcases t with t | ⟨r, hr, z⟩
    · exact .inl t
    · exact .inr ⟨r, List.mem_cons_of_mem _ hr, z⟩
  have nd := s.nd
  rw [List.map_cons, List.nodup_cons] at nd
  refine ⟨⟨fun a t => s.ok.1 a ?_, s.ok.2.mono hsub⟩, ?_, nd.2⟩
  · rcases t with t | ⟨r, hr, z⟩
    · exact .inl t
    · exact .inr ⟨r, List.mem_cons_of_mem _ hr, z⟩
  · cases s.own with
    | cons h t => exact t.mono fun p o ⟨h1, h2, u, h3, h4⟩ => ⟨h1, h2, u, h3, h4.mono hsub⟩
theorem exo_drop {q : Own} {u : HO} (np : H q.2 = none) (e : ExO (q :: ps) (upd H q.2 u) H') : ExO ps H H' := fun a x n h => by
  have ne : a ≠ q.2 := ne_of_none h np
  refine e a x (fun p hp => ?_) (by rw [upd_ne ne]; exact h)
  rcases List.mem_cons.mp hp with e' | hp
  · subst e'; exact fun z => ne z.symm
  · exact n p hp
theorem HT_hid {a : Addr} : Same (hid (HT T ps) H) (hid T H) := hid_hid HT_sub
end
section
variable {P : Program} {w : World} {K : PySem.W.Frag} {mg : Str → Option Value} {base : Heap} {k : Nat} {N : List Str} {sc own : Scope} {X : Cx} {T : Dom} {ps : List Own} {ρ ρ' : List (Option PyData)} {os : List OD} {pos : Pos}
variable {Φ : PyData → List OD → Prop} {Ψ : PyData → List OD → Prop} {ΦT : Bool → List OD → Prop} {ΦA : List PyData → List OD → Prop} {Ω : Res → Prop}
/-! ### blocks -/
def offs (ps : List Own) (i : Nat) : Bool := ps.all fun q => !(q.1 == i)
theorem offs.ok {i : Nat} (h : offs ps i = true) : ∀ q ∈ ps, q.1 ≠ i := fun q hq e => by
  have := List.all_eq_true.mp h q hq
  rw [e, beq_self_eq_true] at this
  cases this
theorem XB.mono {sts : List Stmt} {Ω' : Res → Prop} (h : XB X T ps ρ os sts Ω) (m : ∀ r, Ω r → Ω' r) : XB X T ps ρ os sts Ω' := fun σ H D s r n => h σ H D s (fun d os' f => r d os' (m _ f)) fun ρ' os' f => n ρ' os' (m _ f)
theorem w_nil (f : Ω (.nx ρ os)) : XB X T ps ρ os [] Ω := fun σ H D s r n => wss_nil (n ρ os f σ H .refl s)
theorem w_ret {e : Expr} {rest : List Stmt} (h : XE X T ps ρ os e (fun d os' => Ω (.rt d os'))) : XB X T ps ρ os (.Return (some e) pos :: rest) Ω := fun σ H D s r n =>
  wss_cons (to_ws (ps_ret pe_we) (h σ H _ s fun v H' d os' f e s' hv => r d os' f v σ H' ρ e s' (hv.mono (hid_hid HT_sub))))
/-- what is returned may be one's own -/
theorem w_retF {e : Expr} {d : PyData} {rest : List Stmt} (h : E X T (fill ρ ps os) e d) (f : Ω (.rt d os)) : XB X T ps ρ os (.Return (some e) pos :: rest) Ω := fun σ H D s r n =>
  wss_cons (to_ws (ps_ret pe_we) (h σ H _ s.fill fun v H' e hv => r d os f v σ H' ρ (.of e) (s.same e) hv))
theorem w_set (C : At P w K mg base k N sc own X) (i : Nat) {x : Str} {e : Expr} {p : Pos} {rest : List Stmt} (h : XE X T ps ρ os e Ψ) (hr : ∀ d os1, Ψ d os1 → XB X T ps (ρ.set i (some d)) os1 rest Ω) (hi : offs ps i = true := by rfl) (hx : storeOk N sc own i x = true := by decide +kernel) (hs : swapsWith e (some (.Name x p)) pos.line X.env = pure false := by rfl) :
    XB X T ps ρ os (.Assign [.Name x p] e pos :: rest) Ω := fun σ H D s r n =>
  wss_cons (ws_set C hx hs (h σ H _ s fun v H1 d os1 f e1 s1 hv => hr d os1 f _ H1 D (s1.slots (s1.ok.set hv) fun q hq => List.getElem?_set_ne fun e => offs.ok hi q hq e.symm)
    (fun d2 os2 f2 v2 σ2 H2 ρ2 e2 => r d2 os2 f2 v2 σ2 H2 ρ2 (e1.trans e2)) fun ρ2 os2 f2 σ2 H2 e2 => n ρ2 os2 f2 σ2 H2 (e1.trans e2)))
theorem w_asg (C : At P w K mg base k N sc own X) {tg e : Expr} {rest : List Stmt} (h : XE X T ps ρ os e Ψ) (hr : ∀ d os1, Ψ d os1 → ∃ ρ' is, TG1 X (HT T ps) tg d ρ ρ' is ∧ (is.all (offs ps) = true) ∧ XB X T ps ρ' os1 rest Ω) (hs : swapsWithSole [tg] e pos.line X.env = pure false := by rfl) (hw : swappedStores [tg] e X.env = pure none := by rfl)
    (h1 : (assignEach [tg] X.env).map (·.2) = [assign tg X.env] := by rfl) : XB X T ps ρ os (.Assign [tg] e pos :: rest) Ω := fun σ H D s r n =>
  wss_cons (to_ws (ps_asg pe_we pg_wg hs hw h1) (h σ H _ s fun v H1 d os1 f e1 s1 hv => by
    obtain ⟨ρ', is, tr, hi, hb⟩ := hr d os1 f
    exact tr v σ H1 _ s1.ok hv fun σ' ok' _ o' => hb σ' H1 D (s1.slots ok' fun q hq => o' q.1 fun z => offs.ok (List.all_eq_true.mp hi _ z) q hq rfl)
      (fun d2 os2 f2 v2 σ2 H2 ρ2 e2 => r d2 os2 f2 v2 σ2 H2 ρ2 (e1.trans e2)) fun ρ2 os2 f2 σ2 H2 e2 => n ρ2 os2 f2 σ2 H2 (e1.trans e2)))
/-- what follows behind a part -/
def Then (X : Cx) (T : Dom) (ps : List Own) (rest : List Stmt) (Ω : Res → Prop) : Res → Prop
  | .rt d os' => Ω (.rt d os')
  | .nx ρ' os' => XB X T ps ρ' os' rest Ω
theorem w_if {c : Expr} {a b rest : List Stmt} (hc : XT X T ps ρ os c ΦT) (h : ∀ x os1, ΦT x os1 → XB X T ps ρ os1 (if x = true then a else b) (Then X T ps rest Ω)) : XB X T ps ρ os (.If c a b pos :: rest) Ω := fun σ H D s r n =>
  wss_cons (to_ws (ps_if pt_wt pss_wss pss_wss) (hc σ H _ s fun x H1 os1 f e1 s1 => by
    have go := h x os1 f σ H1 { D with nx := wss X rest D } s1 (fun d2 os2 f2 v2 σ2 H2 ρ2 e2 => r d2 os2 f2 v2 σ2 H2 ρ2 (e1.trans e2)) fun ρ2 os2 f2 σ2 H2 e2 s2 =>
      f2 σ2 H2 D s2 (fun d3 os3 f3 v3 σ3 H3 ρ3 e3 => r d3 os3 f3 v3 σ3 H3 ρ3 ((e1.trans e2).trans e3)) fun ρ3 os3 f3 σ3 H3 e3 => n ρ3 os3 f3 σ3 H3 ((e1.trans e2).trans e3)
    cases x with
    | true => exact iteT go
    | false => exact iteF go))
theorem w_ifF {c : Expr} {a rest : List Stmt} (hc : ET X (HT T ps) ρ c false) (h : XB X T ps ρ os rest Ω) : XB X T ps ρ os (.If c a [] pos :: rest) Ω := w_if (ΦT := fun x os1 => x = false ∧ os1 = os) (t_of hc ⟨rfl, rfl⟩) fun x os1 ⟨e1, e2⟩ => by
  subst e1 e2
  exact w_nil h
theorem w_for (C : At P w K mg base k N sc own X) {tg it : Expr} {body rest : List Stmt} (I : List PyData → Nat → List (Option PyData) → List OD → Prop) (hi : XI X T ps ρ os tg it ΦA) (h0 : ∀ xs os1, ΦA xs os1 → I xs 0 ρ os1)
    (turn : ∀ xs i (h : i < xs.length) ρi osi, I xs i ρi osi → ∃ ρ' is, TG1 X (HT T ps) tg xs[i] ρi ρ' is ∧ (is.all (offs ps) = true) ∧ XB X T ps ρ' osi body (fun r => match r with | .rt d os' => Ω (.rt d os') | .nx ρ2 os2 => I xs (i + 1) ρ2 os2))
    (hr : ∀ (xs : List PyData) ρe ose, I xs xs.length ρe ose → XB X T ps ρe ose rest Ω) (hs : ∀ x, foldedSetIterable it X.env x = pure x := by intro _; rfl) : XB X T ps ρ os (.For tg it body [] pos :: rest) Ω := fun σ H D s r n =>
  wss_cons (to_ws (ps_for (by rw [C.xe]; exact PassesOwn.never) C.calm pi_wi pg_wg pss_wss hs) (hi σ H _ s fun H1 J G Y xs os1 f e1 s1 W hG hY => by
    refine for_it W (fun i σ2 H2 => ExO ps H1 H2 ∧ ∃ ρi osi, I xs i ρi osi ∧ SS T ps ρi osi σ2 H2) ⟨.refl, ρ, os1, h0 xs os1 f, s1⟩ (fun i σ2 H2 _ p => hG (HT T ps) H2 (exo_hid p.1)) (fun i x σ2 H2 H3 hlt p y => ?_) fun σ2 H2 p => ?_
    · obtain ⟨p1, ρi, osi, p2, p3⟩ := p
      obtain ⟨e3, d, hd, dx⟩ := hY (HT T ps) i H2 x H3 (exo_hid p1) p3.ok.1 y
      rw [List.getElem?_eq_getElem hlt] at hd
      have hd' : xs[i] = d := Option.some.inj hd
      subst hd'
      obtain ⟨ρ', is, tr, ho, tb⟩ := turn xs i hlt ρi osi p2
      have s3 := p3.same e3
      have e13 : ExO ps H1 H3 := p1.trans (.of e3)
      exact tr x σ2 H3 _ s3.ok dx fun σ' ok' _ o' => tb σ' H3 _ (s3.slots ok' fun q hq => o' q.1 fun z => offs.ok (List.all_eq_true.mp ho _ z) q hq rfl)
        (fun d4 os4 f4 v4 σ4 H4 ρ4 e4 => r d4 os4 f4 v4 σ4 H4 ρ4 (e1.trans (e13.trans e4))) fun ρ4 os4 f4 σ4 H4 e4 s4 => ⟨e13.trans e4, ρ4, os4, f4, s4⟩
    · obtain ⟨p1, ρi, osi, p2, p3⟩ := p
      exact hr xs ρi osi p2 σ2 H2 D p3 (fun d4 os4 f4 v4 σ4 H4 ρ4 e4 => r d4 os4 f4 v4 σ4 H4 ρ4 (e1.trans (p1.trans e4))) fun ρ4 os4 f4 σ4 H4 e4 => n ρ4 os4 f4 σ4 H4 (e1.trans (p1.trans e4))))
/-! ### new things of one's own -/
def XF (X : Cx) (T : Dom) (ps : List Own) (ρ : List (Option PyData)) (os : List OD) (e : Expr) (Φo : OD → List OD → Prop) : Prop :=
  ∀ σ H Q, SS T ps ρ os σ H → (∀ p H1 u o os1, Φo o os1 → ¬ o.isTin → ExO ps H H1 → SS T ps ρ os1 σ H1 → H1 p = none → OAtU (hid (HT T ps) H1) u o → Q (.ref p) (upd H1 p u)) → we X e σ H Q
variable {Φo : OD → List OD → Prop}
theorem xf_disp {es : List Expr} (h : XA X T ps ρ os es (fun ds os1 => ds.length ≤ 1000 ∧ Φo (.lst ds) os1)) : XF X T ps ρ os (.List es pos) Φo := fun σ H Q s q =>
  to_we (pe_lst pa_wa) (h σ H _ s fun vs H1 ds os1 f e1 s1 h1 => ⟨by rw [h1.length]; exact Nat.le_of_lt (small1000 f.1), fun p np => q p H1 _ (.lst ds) os1 f.2 id e1 s1 np ⟨vs, rfl, h1⟩⟩)
theorem xf_dict (C : At P w K mg base k N sc own X) (B : Bt mg) {p : Pos} {a : Expr} {r : Row} (ha : E X (HT T ps) ρ a (eRow r)) (f : Φo (.dct (dictS r)) os) (hx : globOk sc "dict" = true := by decide +kernel) (hp : plainE a = true := by rfl) : XF X T ps ρ os (.Call (.Name "dict" p) [a] [] pos) Φo := fun σ H Q s q =>
  ef_dict C B ha hx hp σ H Q s.ok fun p H1 e np => q p H1 _ (.dct (dictS r)) os f id (.of e) (s.same e) np rfl
theorem xf_list (C : At P w K mg base k N sc own X) (B : Bt mg) {p : Pos} {a : Expr} {d : PyData} {ds : List PyData} (ha : E X (HT T ps) ρ a d) (hd : d = .tuple ds ∨ d = .list ds) (f : Φo (.lst ds) os) (hx : globOk sc "list" = true := by decide +kernel) (hp : plainE a = true := by rfl) : XF X T ps ρ os (.Call (.Name "list" p) [a] [] pos) Φo := fun σ H Q s q =>
  we_callTy C call_list_of hx B.list (by decide +kernel) (by rw [List.all_cons, hp]; rfl) (one ha s.ok hp fun v H' e hv => by
    obtain ⟨b, vs, rfl, h2, h3⟩ := hv.seq hd
    exact ⟨b, vs, rfl, h2.elim (fun z => .inr (seqT z)) (fun z => .inl (seqL z)), fun l nl => q l H' _ (.lst ds) os f id (.of e) (s.same e) nl ⟨vs, rfl, h3⟩⟩)
/-- the last of the results is forgotten -/
def Drop (Ω : Res → Prop) : Res → Prop
  | .rt d (_ :: os') => Ω (.rt d os')
  | .nx ρ' (_ :: os') => Ω (.nx ρ' os')
  | _ => False
theorem w_new (C : At P w K mg base k N sc own X) (i : Nat) {x : Str} {e : Expr} {p : Pos} {rest : List Stmt} (h : XF X T ps ρ os e Φo) (hr : ∀ a o os1, Φo o os1 → XB X T ((i, a) :: ps) (ρ.set i none) (o :: os1) rest (Drop Ω)) (hl : i < ρ.length := by exact Nat.le_of_ble_eq_true rfl) (hi : offs ps i = true := by rfl) (hx : storeOk N sc own i x = true := by decide +kernel) (hs : swapsWith e (some (.Name x p)) pos.line X.env = pure false := by rfl) :
    XB X T ps ρ os (.Assign [.Name x p] e pos :: rest) Ω := fun σ H D s r n =>
  wss_cons (ws_set C hx hs (h σ H _ s fun a H1 u o os1 f nt e1 s1 np hu => hr a o os1 f _ _ D (s1.with np hu nt (offs.ok hi) hl)
    (fun d2 os2 f2 v2 σ2 H2 ρ2 e2 s2 hv => by
      cases os2 with
      | nil => exact f2.elim
      | cons o2 os2 => exact r d2 os2 f2 v2 σ2 H2 ρ2 (e1.trans (exo_drop (q := (i, a)) np e2)) s2.drop hv)
    fun ρ2 os2 f2 σ2 H2 e2 s2 => by
      cases os2 with
      | nil => exact f2.elim
      | cons o2 os2 => exact n ρ2 os2 f2 σ2 H2 (e1.trans (exo_drop (q := (i, a)) np e2)) s2.drop))
end
end Sk
set_option maxHeartbeats 8000000
/-! SkP: changes of one's own things, comprehensions that draw, defs that draw. -/
namespace Sk
open PySem PySem.Spec PyProof.Rows L2 PySem.W
section
variable {P : Program} {w : World} {K : PySem.W.Frag} {mg : Str → Option Value} {base : Heap} {k : Nat} {N : List Str} {sc own : Scope} {X : Cx} {T : Dom} {ps : List Own} {ρ ρ' : List (Option PyData)} {os : List OD} {pos : Pos}
variable {Φ : PyData → List OD → Prop} {Ψ : PyData → List OD → Prop} {ΦT : Bool → List OD → Prop} {ΦA : List PyData → List OD → Prop} {Ω : Res → Prop}
/-- the name of one's own thing -/
theorem own_name (C : At P w K mg base k N sc own X) {i : Nat} {a : Addr} {j : Nat} {x : Str} {σ : L2.St} {H : Hp} {Q : VK} (s : SS T ps ρ os σ H) (hp : ps[j]? = some (i, a)) (h : nameOk N sc i x = true) (q : Q (.ref a) H) : we X (.Name x pos) σ H Q := by
  obtain ⟨o, _, h1, _⟩ := s.at hp
  exact to_we (pe_name C i h) ⟨.ref a, h1, q⟩
theorem own_lst {i : Nat} {a : Addr} {j : Nat} {σ : L2.St} {H : Hp} {ds : List PyData} (s : SS T ps ρ os σ H) (hp : ps[j]? = some (i, a)) (ho : os[j]? = some (.lst ds)) : ∃ xs, H a = some (.lst xs) ∧ Das (hid (HT T ps) H) xs ds := by
  obtain ⟨o, e, _, _, u, h3, h4⟩ := s.at hp
  rw [ho] at e
  cases (Option.some.inj e)
  obtain ⟨xs, rfl, h5⟩ := h4
  exact ⟨xs, h3, h5⟩
theorem own_dct {i : Nat} {a : Addr} {j : Nat} {σ : L2.St} {H : Hp} {r : Row} (s : SS T ps ρ os σ H) (hp : ps[j]? = some (i, a)) (ho : os[j]? = some (.dct r)) : H a = some (.dT (r.map kvV)) := by
  obtain ⟨o, e, _, _, u, h3, h4⟩ := s.at hp
  rw [ho] at e
  cases (Option.some.inj e)
  cases h4
  exact h3
/-- x.append(e) -/
theorem w_append (C : At P w K mg base k N sc own X) (j : Nat) {i : Nat} {a : Addr} {x : Str} {p apos cpos : Pos} {e : Expr} {rest : List Stmt} {ds0 : List PyData} (hp : ps[j]? = some (i, a)) (h0 : os[j]? = some (.lst ds0))
    (h : XE X T ps ρ os e (fun d os1 => ∃ ds, os1[j]? = some (.lst ds) ∧ ds.length ≤ 100000 ∧ XB X T ps ρ (os1.set j (.lst (ds ++ [d]))) rest Ω)) (nm : nameOk N sc i x = true := by decide +kernel) (hpl : plainE e = true := by rfl)
    (hsw : swapsWith (.Call (.Attribute (.Name x p) "append" apos) [e] [] cpos) none pos.line X.env = pure false := by rfl)
    (hbase : attributeBase (.Name x p) "append" X.env (eval (.Name x p) X.env) = eval (.Name x p) X.env := by rfl)
    (hfew : ((backTo cpos (starEach [e] X.env)).all (fun x => !x.1) && (backToKw cpos (keywordEach [] X.env)).all (fun x => x.1.isSome)
      && decide (([e] : List Expr).length + ([] : List Keyword).length + (if ([] : List Keyword).isEmpty then 0 else 1) < 30)) = true := by rfl)
    (hline : (apos.endLine == cpos.line) = true := by rfl) : XB X T ps ρ os (.Expr (.Call (.Attribute (.Name x p) "append" apos) [e] [] cpos) pos :: rest) Ω := fun σ H D s r n => by
  refine wss_cons (to_ws (ps_expr pe_we hsw) (to_we (pe_bm F.plainAttrs_list F.slot_list_append F.type_list_append mt_append pe_we (pa_wa) hbase hfew hline (star_plain hpl) rfl) (own_name C s hp nm ⟨?_, ?_⟩)))
  · obtain ⟨xs, hx, _⟩ := own_lst s hp h0
    exact .inl ⟨rfl, xs, .inl (.inl hx)⟩
  · refine x_one h s hpl fun v H1 d os1 ⟨ds, ho, hl, hb⟩ e1 s1 hv => ?_
    obtain ⟨xs, hx, hd⟩ := own_lst s1 hp ho
    refine ⟨a, xs, v, rfl, rfl, hx, by rw [hd.length]; exact Nat.lt_of_le_of_lt hl (by decide), ?_⟩
    have s2 := s1.upd (u := .lst (xs ++ [v])) (o' := .lst (ds ++ [d])) hp ho Iff.rfl ⟨_, rfl, hd.append (.one hv)⟩
    have e2 : ExO ps H (upd H1 a (.lst (xs ++ [v]))) := e1.trans (exo_upd (p := (i, a)) (List.mem_of_getElem? hp))
    exact hb σ _ D s2 (fun d4 os4 f4 v4 σ4 H4 ρ4 e4 => r d4 os4 f4 v4 σ4 H4 ρ4 (e2.trans e4)) fun ρ4 os4 f4 σ4 H4 e4 => n ρ4 os4 f4 σ4 H4 (e2.trans e4)
/-- x.extend(e) -/
theorem w_extend (C : At P w K mg base k N sc own X) (j : Nat) {i : Nat} {a : Addr} {x : Str} {p apos cpos : Pos} {e : Expr} {rest : List Stmt} {ds0 : List PyData} (hp : ps[j]? = some (i, a)) (h0 : os[j]? = some (.lst ds0))
    (h : XE X T ps ρ os e (fun d os1 => ∃ ds es, d = .list es ∧ os1[j]? = some (.lst ds) ∧ ds.length + es.length ≤ 100000 ∧ XB X T ps ρ (os1.set j (.lst (ds ++ es))) rest Ω)) (nm : nameOk N sc i x = true := by decide +kernel) (hpl : plainE e = true := by rfl)
    (hsw : swapsWith (.Call (.Attribute (.Name x p) "extend" apos) [e] [] cpos) none pos.line X.env = pure false := by rfl)
    (hbase : attributeBase (.Name x p) "extend" X.env (eval (.Name x p) X.env) = eval (.Name x p) X.env := by rfl)
    (hfew : ((backTo cpos (starEach [e] X.env)).all (fun x => !x.1) && (backToKw cpos (keywordEach [] X.env)).all (fun x => x.1.isSome)
      && decide (([e] : List Expr).length + ([] : List Keyword).length + (if ([] : List Keyword).isEmpty then 0 else 1) < 30)) = true := by rfl)
    (hline : (apos.endLine == cpos.line) = true := by rfl) : XB X T ps ρ os (.Expr (.Call (.Attribute (.Name x p) "extend" apos) [e] [] cpos) pos :: rest) Ω := fun σ H D s r n => by
  refine wss_cons (to_ws (ps_expr pe_we hsw) (to_we (pe_bm F.plainAttrs_list F.slot_list_extend F.type_list_extend mt_extend pe_we (pa_wa) hbase hfew hline (star_plain hpl) rfl) (own_name C s hp nm ⟨?_, ?_⟩)))
  · obtain ⟨xs, hx, _⟩ := own_lst s hp h0
    exact .inl ⟨rfl, xs, .inl (.inl hx)⟩
  · refine x_one h s hpl fun v H1 d os1 ⟨ds, es, ed, ho, hl, hb⟩ e1 s1 hv => ?_
    subst ed
    obtain ⟨xs, hx, hd⟩ := own_lst s1 hp ho
    obtain ⟨b, zs, rfl, hz, hzs⟩ := hv.lst_inv
    refine ⟨a, b, xs, zs, rfl, rfl, hx, hid_le _ _ hz, by rw [hd.length, hzs.length]; exact Nat.le_trans hl (by decide), ?_⟩
    have s2 := s1.upd (u := .lst (xs ++ zs)) (o' := .lst (ds ++ es)) hp ho Iff.rfl ⟨_, rfl, hd.append hzs⟩
    have e2 : ExO ps H (upd H1 a (.lst (xs ++ zs))) := e1.trans (exo_upd (p := (i, a)) (List.mem_of_getElem? hp))
    exact hb σ _ D s2 (fun d4 os4 f4 v4 σ4 H4 ρ4 e4 => r d4 os4 f4 v4 σ4 H4 ρ4 (e2.trans e4)) fun ρ4 os4 f4 σ4 H4 e4 => n ρ4 os4 f4 σ4 H4 (e2.trans e4)
/-- x.pop(e) -/
theorem x_pop (C : At P w K mg base k N sc own X) (j : Nat) {i : Nat} {a : Addr} {x : Str} {p apos cpos : Pos} {e : Expr} {ds0 : List PyData} (hp : ps[j]? = some (i, a)) (h0 : os[j]? = some (.lst ds0))
    (h : XE X T ps ρ os e (fun d os1 => ∃ ds m dv, d = .int ((m : Nat) : Int) ∧ os1[j]? = some (.lst ds) ∧ ds.length ≤ 100000 ∧ ds[m]? = some dv ∧ Φ dv (os1.set j (.lst (ds.eraseIdx m))))) (nm : nameOk N sc i x = true := by decide +kernel) (hpl : plainE e = true := by rfl)
    (hbase : attributeBase (.Name x p) "pop" X.env (eval (.Name x p) X.env) = eval (.Name x p) X.env := by rfl)
    (hfew : ((backTo cpos (starEach [e] X.env)).all (fun x => !x.1) && (backToKw cpos (keywordEach [] X.env)).all (fun x => x.1.isSome)
      && decide (([e] : List Expr).length + ([] : List Keyword).length + (if ([] : List Keyword).isEmpty then 0 else 1) < 30)) = true := by rfl)
    (hline : (apos.endLine == cpos.line) = true := by rfl) : XE X T ps ρ os (.Call (.Attribute (.Name x p) "pop" apos) [e] [] cpos) Φ := fun σ H Q s q => by
  refine to_we (pe_bm F.plainAttrs_list F.slot_list_pop F.type_list_pop mt_popAt pe_we (pa_wa) hbase hfew hline (star_plain hpl) rfl) (own_name C s hp nm ⟨?_, ?_⟩)
  · obtain ⟨xs, hx, _⟩ := own_lst s hp h0
    exact .inl ⟨rfl, xs, .inl (.inl hx)⟩
  · refine x_one h s hpl fun v H1 d os1 ⟨ds, m, dv, ed, ho, hl, hm, f⟩ e1 s1 hv => ?_
    subst ed
    obtain ⟨xs, hx, hd⟩ := own_lst s1 hp ho
    obtain ⟨y, hy, dy⟩ := hd.get hm
    have hlt : m < ds.length := (List.getElem?_eq_some_iff.mp hm).1
    have hlx := hd.length
    have s2 := s1.upd (u := .lst (xs.eraseIdx m)) (o' := .lst (ds.eraseIdx m)) hp ho Iff.rfl ⟨_, rfl, hd.eraseIdx m⟩
    refine ⟨a, xs, (m : Int), m, y, rfl, by rw [hv.int_inv], hx, by omega, by omega, ?_, hy, q y _ dv _ f (e1.trans (exo_upd (p := (i, a)) (List.mem_of_getElem? hp))) s2 ?_⟩
    · rw [seqIndex_of (by omega) (by omega), Int.toNat_natCast]
    · exact dy.mono (hid_upd (.inr ⟨(i, a), List.mem_of_getElem? hp, rfl⟩))
/-- x[n] = e, x a list -/
theorem w_setL (C : At P w K mg base k N sc own X) (j : Nat) {i : Nat} {a : Addr} {x : Str} {p p' : Pos} {ei ev : Expr} {rest : List Stmt} {ds : List PyData} {m : Nat} {d : PyData} (hp : ps[j]? = some (i, a)) (ho : os[j]? = some (.lst ds))
    (hv : E X T (fill ρ ps os) ev d) (hf : flat d = true) (hi : E X (HT T ps) ρ ei (.int (m : Int))) (hm : m < ds.length) (h : XB X T ps ρ (os.set j (.lst (ds.set m d))) rest Ω) (nm : nameOk N sc i x = true := by decide +kernel)
    (ha : ∀ v, assign (.Subscript (.Name x p) ei p') X.env v = (do
      let ov ← holding [v] (eval (.Name x p) X.env)
      let iv ← holding [v, ov] (eval ei X.env)
      standAt p'
      holding [v, ov, iv] (setItem ov iv v)
      release [v, ov, iv] []) := by intro _; rfl) (hs : swapsWithSole [.Subscript (.Name x p) ei p'] ev pos.line X.env = pure false := by rfl) (hw : swappedStores [.Subscript (.Name x p) ei p'] ev X.env = pure none := by rfl)
    (h1 : (assignEach [.Subscript (.Name x p) ei p'] X.env).map (·.2) = [assign (.Subscript (.Name x p) ei p') X.env] := by rfl) : XB X T ps ρ os (.Assign [.Subscript (.Name x p) ei p'] ev pos :: rest) Ω := fun σ H D s r n =>
  wss_cons (to_ws (ps_asg pe_we (pg_sub pe_we pe_we set_list ha) hs hw h1) (hv σ H _ s.fill fun v H1 e1 dv => own_name C (s.same e1) hp nm (hi σ H1 _ (s.same e1).ok fun y H2 e2 dy => by
    have s2 := (s.same e1).same e2
    obtain ⟨xs, hx, hd⟩ := own_lst s2 hp ho
    have hlx := hd.length
    have dv2 : Da (hid (HT T ps) H2) v d := Da.tups (tups_hid s2.ok.1) hf ((dv.mono (same_hid e2)).mono hid_le)
    refine ⟨a, xs, (m : Int), m, rfl, dy.int_inv, hx, ?_, ?_⟩
    · unfold ixN
      rw [if_pos (by omega), if_pos (by omega), Int.toNat_natCast]
    · have s3 := s2.upd (u := .lst (xs.set m v)) (o' := .lst (ds.set m d)) hp ho Iff.rfl ⟨_, rfl, ?_⟩
      have e3 : ExO ps H (upd H2 a (.lst (xs.set m v))) := (ExO.of (e1.trans e2)).trans (exo_upd (p := (i, a)) (List.mem_of_getElem? hp))
      · exact h σ _ D s3 (fun d4 os4 f4 v4 σ4 H4 ρ4 e4 => r d4 os4 f4 v4 σ4 H4 ρ4 (e3.trans e4)) fun ρ4 os4 f4 σ4 H4 e4 => n ρ4 os4 f4 σ4 H4 (e3.trans e4)
      · have key : ∀ {xs : List V} {ds : List PyData} (m : Nat), Das (hid (HT T ps) H2) xs ds → Das (hid (HT T ps) H2) (xs.set m v) (ds.set m d) := by
          intro xs ds m hd
          induction xs generalizing ds m with
          | nil => cases hd; exact .nil
          | cons x xs ih =>
            cases hd with
            | cons h t =>
              cases m with
              | zero => exact .cons dv2 t
              | succ m => exact .cons h (ih m t)
        exact key m hd)))
/-- d[s] = e -/
theorem w_put (C : At P w K mg base k N sc own X) (j : Nat) {i : Nat} {a : Addr} {x : Str} {p p' : Pos} {ei ev : Expr} {rest : List Stmt} {rw_ : Row} {z : Spot} {m : Int} (hp : ps[j]? = some (i, a)) (ho : os[j]? = some (.dct rw_))
    (hv : E X T (fill ρ ps os) ev (.int m)) (hi : E X (HT T ps) ρ ei (eSpot z)) (hl : rw_.length ≤ 1000) (h : XB X T ps ρ (os.set j (.dct (putS rw_ z m))) rest Ω) (nm : nameOk N sc i x = true := by decide +kernel)
    (hs : swapsWith ev (some (.Subscript (.Name x p) ei p')) pos.line X.env = pure false := by rfl) : XB X T ps ρ os (.Assign [.Subscript (.Name x p) ei p'] ev pos :: rest) Ω := fun σ H D s r n =>
  wss_cons (to_ws (ps_dput (by have := C.units; omega) pe_we pe_we pe_we hs) (hv σ H _ s.fill fun v H1 e1 dv => own_name C (s.same e1) hp nm (hi σ H1 _ (s.same e1).ok fun y H2 e2 dy => by
    have s2 := (s.same e1).same e2
    have hx := own_dct s2 hp ho
    obtain ⟨b, rfl, hb⟩ := dy.spot_inv
    cases dv
    refine ⟨a, _, rfl, DPut.t hx (hid_le _ _ hb) (by rw [List.length_map]; exact Nat.lt_of_le_of_lt hl (by decide)), ?_⟩
    have s3 := s2.upd (u := .dT (putK (rw_.map kvV) (kS z) (.int m))) (o' := .dct (putS rw_ z m)) hp ho Iff.rfl (by rw [putK_kv] <;> rfl)
    have e3 : ExO ps H (upd H2 a (.dT (putK (rw_.map kvV) (kS z) (.int m)))) := (ExO.of (e1.trans e2)).trans (exo_upd (p := (i, a)) (List.mem_of_getElem? hp))
    exact h σ _ D s3 (fun d4 os4 f4 v4 σ4 H4 ρ4 e4 => r d4 os4 f4 v4 σ4 H4 ρ4 (e3.trans e4)) fun ρ4 os4 f4 σ4 H4 e4 => n ρ4 os4 f4 σ4 H4 (e3.trans e4))))
/-- pure again -/
theorem bo_of {sts : List Stmt} {d : PyData} (h : XB X T [] ρ [] sts (fun r => r = .rt d [])) : BO X T ρ sts (.rt d) := fun σ H D ok q =>
  h σ H D ⟨by rw [HT_nil]; exact ok, .nil, List.nodup_nil⟩ (fun d' os' f v σ' H' ρ' e s' hv => by
    cases f
    exact q v H' (fun a o ha => e a o (fun p hp => by simp at hp) ha) hv) fun ρ' os' f => by cases f
end
end Sk
set_option maxHeartbeats 8000000
/-! SkQ: comprehensions that draw, defs that draw. -/
namespace Sk
open PySem PySem.Spec PyProof.Rows L2 PySem.W
section
variable {P : Program} {w : World} {K : PySem.W.Frag} {mg : Str → Option Value} {base : Heap} {k : Nat} {N : List Str} {sc own : Scope} {X : Cx} {T : Dom} {ps : List Own} {ρ ρ' : List (Option PyData)} {os : List OD} {pos : Pos}
variable {Φ : PyData → List OD → Prop} {Ψ : PyData → List OD → Prop} {ΦT : Bool → List OD → Prop} {ΦA : List PyData → List OD → Prop} {Ω : Res → Prop}
theorem t_val {e : Expr} (h : XE X T ps ρ os e (fun d os' => ∃ b, d = .bool b ∧ ΦT b os')) (he : ∀ whole, isTrue e X.env whole = (do let v ← whole; standAt e.pos; holding [v] (truthy v)) := by intro _; rfl) : XT X T ps ρ os e ΦT := fun σ H Q s q =>
  to_wt (pt_val pe_we he) (h σ H _ s fun v H' d os' ⟨b, ed, f⟩ e s' hv => by
    subst ed
    exact ⟨b, hv.bool_inv, q b H' os' f e s'⟩)
theorem t_cmpI {op : CmpOp} {g : Int → Int → Bool} {a b : Expr} {j : Int} (ho : OpR X (compareOp op) (rI0 fun i j => .bl (g i j))) (hb : E X (HT T ps) ρ b (.int j)) (ha : XE X T ps ρ os a (fun d os' => ∃ i, d = .int i ∧ ΦT (g i j) os')) (hm : behindInMarks op b = false := by first | exact nomark _ | rfl) : XT X T ps ρ os (.Compare a [op] [b] pos) ΦT := fun σ H Q s q =>
  wt_cmp ho hm (ha σ H _ s fun x H1 d os1 ⟨i, ed, f⟩ e1 s1 h1 => hb σ H1 _ s1.ok fun y H2 e2 h2 => by
    subst ed
    exact ⟨i, j, h1.int_inv, h2.int_inv, _, rfl, q _ H2 os1 f (e1.trans (.of e2)) (s1.same e2)⟩)
/-- == 0 by the scalars' rule -/
theorem op_eqI : OpR X (compareOp .Eq) (rI0 fun i j => .bl (decide (i = j))) := by
  intro pins s σ H x y v u Q I rx ry h
  obtain ⟨i, j, rfl, rfl, q⟩ := h
  refine op_eq pins s σ H _ _ v u Q I rx ry ⟨rfl, ?_⟩
  rw [show decide (V.int i = V.int j) = decide (i = j) by rw [dec_int, Bool.beq_eq_decide_eq]]
  exact q
/-- a and b: a pure, b draws -/
theorem t_and {a b : Expr} {x : Bool} (ha : ET X (HT T ps) ρ a x) (h0 : x = false → ΦT false os) (hb : x = true → XT X T ps ρ os b ΦT) : XT X T ps ρ os (.BoolOp .And [a, b] pos) ΦT := fun σ H Q s q =>
  to_wt (pw_and pt_wt (pw_and1 pt_wt)).pt (ha σ H _ s.ok fun H1 e1 => by
    cases x with
    | true => exact iteT (hb rfl σ H1 _ (s.same e1) fun b H2 os2 f e2 s2 => q b H2 os2 f (ExO.trans (.of e1) e2) s2)
    | false => exact iteF (q false H1 os (h0 rfl) (.of e1) (s.same e1)))
theorem i_range (C : At P w K mg base k N sc own X) (B : Bt mg) {tg : Expr} {p : Pos} {a : Expr} (h : XE X T ps ρ os a (fun d os' => ∃ n : Nat, d = .int (n : Int) ∧ n ≤ 1000000 ∧ ΦA (upTo n) os')) (hx : globOk sc "range" = true := by decide +kernel) (hp : plainE a = true := by rfl) : XI X T ps ρ os tg (.Call (.Name "range" p) [a] [] pos) ΦA := fun σ H R s q =>
  to_wi (pi_range1 (C.gl hx) (by rw [C.emg]; exact B.range) pa_wa (star_plain hp)) (x_one h s hp fun v H1 d os1 ⟨n, ed, hn, f⟩ e1 s1 hv => by
    subst ed
    refine ⟨(n : Int), by rw [hv.int_inv], by omega, by omega, ?_⟩
    rw [Int.toNat_natCast]
    refine q H1 _ (fun _ => True) (fun i H2 x H3 => i < n ∧ H3 = H2 ∧ x = .int (i : Int)) (upTo n) os1 f e1 s1 ?_ (fun _ _ _ => True.intro) fun T2 i H2 x H3 s tk y => ?_
    · rw [upTo_length]
      exact ⟨fun _ _ hi _ => hi, fun _ _ => Nat.le_refl _, fun i H2 x H3 hi _ y => ⟨hi, y.1, by rw [y.2, Int.zero_add]⟩⟩
    · obtain ⟨y0, rfl, rfl⟩ := y
      exact ⟨Same.refl _, _, upTo_at y0, .int _⟩)
/-! ### comprehensions that draw -/
section
variable {σ : L2.St} {H H' : Hp} {D : Addr}
theorem HT_with : hid (HT (With T D) ps) H = hid (With (HT T ps) D) H := by
  have e : HT (With T D) ps = With (HT T ps) D := by
    funext a
    refine propext ⟨fun h => ?_, fun h => ?_⟩
    · rcases h with (h | h) | h
      · exact .inl (.inl h)
      · exact .inr h
      · exact .inl (.inr h)
    · rcases h with (h | h) | h
      · exact .inl (.inl h)
      · exact .inr h
      · exact .inl (.inr h)
  rw [e]
theorem with_sub (a : Addr) (t : HT T ps a) : HT (With T D) ps a := t.elim (fun t => .inl (.inl t)) .inr
theorem SS.hideN (s : SS T ps ρ os σ H) (np : H D = none) (e : Same H H') {us : List V} (hD : H' D = some (.lst us)) : SS (With T D) ps ρ os σ H' := by
  have hs : Same (hid (HT T ps) H) (hid (HT (With T D) ps) H') := by
    rw [HT_with]
    exact hid_with e np
  refine ⟨⟨fun a t => ?_, s.ok.2.mono hs⟩, s.own.mono fun p o ⟨h1, h2, u, h3, h4⟩ => ⟨h1, ?_, u, e _ _ h3, h4.mono hs⟩, s.nd⟩
  · rcases t with (t | t) | t
    · exact s.ok.1.mono e a (.inl t)
    · subst t; exact ⟨_, hD, rfl⟩
    · exact s.ok.1.mono e a (.inr t)
  · rw [← h2]
    exact ⟨fun t => t.elim id fun z => absurd z (ne_of_none h3 np), .inl⟩
theorem SS.showN (s : SS (With T D) ps ρ os σ H) (hD : ∀ p ∈ ps, p.2 ≠ D) : SS T ps ρ os σ H := by
  have hs : Same (hid (HT (With T D) ps) H) (hid (HT T ps) H) := hid_hid with_sub
  refine ⟨⟨fun a t => s.ok.1 a (with_sub a t), s.ok.2.mono hs⟩, ?_, s.nd⟩
  have key : ∀ {qs : List Own} {os : List OD}, EachIs (OOk (With T D) ps σ H) qs os → (∀ p ∈ qs, p.2 ≠ D) → EachIs (OOk T ps σ H) qs os := by
    intro qs os x
    induction x with
    | nil => exact fun _ => .nil
    | cons h t ih =>
      intro z
      obtain ⟨h1, h2, u, h3, h4⟩ := h
      refine .cons ⟨h1, ?_, u, h3, h4.mono hs⟩ (ih fun p hp => z p (List.mem_cons_of_mem _ hp))
      rw [← h2]
      exact ⟨.inl, fun t => t.elim id fun e => absurd e (z _ List.mem_cons_self)⟩
  exact key s.own hD
/-- the list that is being made grows -/
theorem SS.grow (s : SS (With T D) ps ρ os σ H) (hD : ∀ p ∈ ps, p.2 ≠ D) {us : List V} : SS (With T D) ps ρ os σ (L2.upd H D (.lst us)) := by
  have hm : HT (With T D) ps D := .inl (.inr rfl)
  have hs : Same (hid (HT (With T D) ps) H) (hid (HT (With T D) ps) (L2.upd H D (.lst us))) := (sameT_upd hm).hid
  refine ⟨s.ok.upd hm, ?_, s.nd⟩
  have key : ∀ {qs : List Own} {os : List OD}, EachIs (OOk (With T D) ps σ H) qs os → (∀ p ∈ qs, p.2 ≠ D) → EachIs (OOk (With T D) ps σ (L2.upd H D (.lst us))) qs os := by
    intro qs os x
    induction x with
    | nil => exact fun _ => .nil
    | cons h t ih =>
      intro z
      obtain ⟨h1, h2, u, h3, h4⟩ := h
      exact .cons ⟨h1, h2, u, by rw [upd_ne (z _ List.mem_cons_self)]; exact h3, h4.mono hs⟩ (ih fun p hp => z p (List.mem_cons_of_mem _ hp))
  exact key s.own hD
end
theorem wipe_at : ∀ (vs : List Nat) (σ : L2.St) (i : Nat), i ∉ vs → (L2.wipe σ vs)[i]? = σ[i]?
  | [], _, _, _ => rfl
  | v :: vs, σ, i, h => by
    show ((L2.wipe σ vs).set v none)[i]? = σ[i]?
    rw [List.getElem?_set_ne fun e => h (by rw [e]; exact List.mem_cons_self)]
    exact wipe_at vs σ i fun z => h (List.mem_cons_of_mem _ z)
theorem SS.wipe {σ : L2.St} {H : Hp} (s : SS T ps ρ os σ H) (vs : List Nat) (h : ∀ v ∈ vs, offs ps v = true) : SS T ps (wipeD ρ vs) os (L2.wipe σ vs) H :=
  s.slots (s.ok.wipe vs) fun p hp => wipe_at vs σ p.1 fun z => offs.ok (h _ z) p hp rfl
theorem x_lc (C : At P w K mg base k N sc own X) {elt tg iter : Expr} {scope : Scope} (ow : List (Str × Nat)) (I : List PyData → Nat → List PyData → List OD → Prop) (hi : XI X T ps ρ os tg iter ΦA) (h0 : ∀ xs os1, ΦA xs os1 → xs.length ≤ 100000 ∧ I xs 0 [] os1)
    (turn : ∀ xs i (h : i < xs.length) acc osi, I xs i acc osi → ∃ ρ' is, (∀ i ∈ is, i ∈ ow.map (·.2)) ∧ ∀ (X' : Cx) (T' : Dom), At P w K mg base k N (relS scope sc) scope X' → TG1 X' (HT T' ps) tg xs[i] (wipeD ρ (ow.map (·.2))) ρ' is ∧ XE X' T' ps ρ' osi elt (fun d os' => I xs (i + 1) (acc ++ [d]) os'))
    (fin : ∀ (xs : List PyData) acc ose, I xs xs.length acc ose → Φ (.list acc) ose) (hb : blkC N sc scope ow = true := by decide +kernel) (hv0 : (ow.map (·.2)).all (offs ps) = true := by rfl) (hk : scope.kind = .function := by rfl)
    (hs : ∀ x, foldedSetIterable iter X.env x = pure x := by intro _; rfl) : XE X T ps ρ os (.ListComp elt [⟨tg, iter, [], 0⟩] scope pos) Φ := fun σ H Q s q =>
  to_we (pe_lc (wi := wi X tg iter) (g := gB X scope tg) (tt := tYes) (te := eB X scope elt) C.calm (by rw [C.eN]; exact C.nd) pi_wi (by rw [C.eN, C.esc]; exact blkOk_by hb)
    (fun s H' C' cl fp => ⟨fun pins s1 σ H v u Q I r h => h s H' C' cl fp pins s1 u I r⟩) (fun s H' C' cl fp => pts_nil)
    (fun s H' C' cl fp => ⟨fun pins s1 σ H Q I h => h s H' C' cl fp pins s1 I⟩) hs) (by
    have hv : ∀ v ∈ ow.map (·.2), offs ps v = true := List.all_eq_true.mp hv0
    refine hi σ H _ s fun H1 J G Y xs os1 f e1 s1 W hG hY D nD => ?_
    obtain ⟨hl, i0⟩ := h0 xs os1 f
    have hD : ∀ p ∈ ps, p.2 ≠ D := fun p hp e => by
      obtain ⟨j, hj⟩ := List.mem_iff_getElem?.mp hp
      obtain ⟨o2, _, _, _, v, h3, _⟩ := s1.at hj
      rw [e, nD] at h3
      cases h3
    have hdis : ∀ H2, ExO ps (upd H1 D (.lst [])) H2 → ExO ps H1 H2 := fun H2 e a o n h => e a o n (by rw [upd_ne (ne_of_none h nD)]; exact h)
    refine lc_it W (fun i H2 => (∀ a o, a ≠ D → (∀ p ∈ ps, p.2 ≠ a) → H1 a = some o → H2 a = some o) ∧ ∃ acc osi us, I xs i acc osi ∧ SS (With T D) ps ρ osi σ H2 ∧ H2 D = some (.lst us) ∧ Das (hid (HT (With T D) ps) H2) us acc ∧ acc.length = i)
      ⟨fun a o ne _ h => by rw [upd_ne ne]; exact h, [], os1, [], i0, s1.hideN nD (same_new nD) upd_same, upd_same, .nil, rfl⟩ (fun i H2 _ p => ?_) ?_ ?_
    · refine hG (HT (With T D) ps) H2 fun a o h => ?_
      obtain ⟨t, h⟩ := hid_some h
      have ne : a ≠ D := ne_of_none h nD
      rw [HT_with, hid_no fun z => z.elim t ne]
      exact p.1 a o ne (fun q hq z => t (.inr ⟨q, hq, z⟩)) h
    · intro i x H2 H3 hlt p y
      obtain ⟨p1, acc, osi, us, p2, p3, p4, p5, p6⟩ := p
      have st : Same (hid (HT T ps) H1) (hid (HT (With T D) ps) H2) := fun a o h => by
        obtain ⟨t, h⟩ := hid_some h
        have ne : a ≠ D := ne_of_none h nD
        rw [HT_with, hid_no fun z => z.elim t ne]
        exact p1 a o ne (fun q hq z => t (.inr ⟨q, hq, z⟩)) h
      obtain ⟨e3, d, hd, dx⟩ := hY (HT (With T D) ps) i H2 x H3 st p3.ok.1 y
      rw [List.getElem?_eq_getElem hlt] at hd
      have hd' : xs[i] = d := Option.some.inj hd
      subst hd'
      obtain ⟨ρ', is, his, tr⟩ := turn xs i hlt acc osi p2
      have s3 := p3.same e3
      have s4 := s3.wipe (ow.map (·.2)) hv
      intro s' H' C' cl fp
      refine (tr _ (With T D) (blk_at C hk)).1 x _ H3 _ s4.ok dx fun σ' ok4 w4 o4 => ⟨?_, ?_⟩
      · rw [w4 _ his]
        exact wipe_idem _ _ σ fun _ h => h
      · refine yes_go fun s' H' C' cl fp => ?_
        have s5 : SS (With T D) ps ρ' osi σ' H3 := s4.slots ok4 fun q hq => o4 q.1 fun z => offs.ok (hv _ (his _ z)) q hq rfl
        refine (tr _ (With T D) (blk_at C hk)).2 σ' H3 _ s5 fun z H5 d os5 f5 e5 s6 hz => ?_
        have back : SS (With T D) ps ρ os5 σ H5 := s3.back s6 e5 fun q hq => by
          rw [o4 q.1 fun z => offs.ok (hv _ (his _ z)) q hq rfl]
          exact wipe_at _ σ q.1 fun z => offs.ok (hv _ z) q hq rfl
        have hD5 : H5 D = some (.lst us) := e5 D _ hD (e3 D _ p4)
        have d5 : Das (hid (HT (With T D) ps) H5) us acc := (p5.mono (same_hid e3)).mono (exo_hid e5)
        refine ⟨us, hD5, ?_, fun a o ne n h => ?_, acc ++ [d], os5, us ++ [z], f5, back.grow hD, upd_same, ?_, by rw [List.length_append, p6] <;> rfl⟩
        · rw [d5.length, p6]
          exact Nat.lt_of_lt_of_le hlt (Nat.le_trans hl (by decide))
        · rw [upd_ne ne]
          exact e5 a o n (e3 a o (p1 a o ne n h))
        · exact (d5.append (.one hz)).mono (sameT_upd (show HT (With T D) ps D from .inl (.inr rfl))).hid
    · intro H2 p
      obtain ⟨p1, acc, osi, us, p2, p3, p4, p5, p6⟩ := p
      refine q (.ref D) H2 (.list acc) osi (fin xs acc osi p2) (e1.trans fun a o n h => p1 a o (ne_of_none h nD) n h) (p3.showN hD) (.lst ?_ (p5.mono (hid_hid with_sub)))
      rw [hid_no (s1.ok.1.not nD)]
      exact p4)
/-! ### defs that draw -/
/-- the promise: for data that fulfil Pre, one of the data in R; at most c draws -/
def PT (c : Nat) (Pre : List PyData → Prop) (R : List PyData → PyData → Prop) : Sp := fun vs H Q _ => ∃ (T : Dom) (t : Addr) (vs' : List V) (ds : List PyData) (n : Nat), vs = .ref t :: vs' ∧ TOk T H ∧ T t ∧ (∃ u, H t = some u ∧ OAtU H u (.tin n)) ∧ Das (hid T H) vs' ds ∧ Pre ds ∧ n + c ≤ 2 ^ 60 ∧
  ∀ v H' d, R ds d → (∀ a o, a ≠ t → H a = some o → H' a = some o) → (∃ u, H' t = some u ∧ OAtU H' u (.tin (n + c))) → Da (hid T H') v d → Q v H'
theorem x_callT (C : At P w K mg base k N sc own X) {c jj : Nat} {f tn : Str} {prs : List Str} {Pre : List PyData → Prop} {R : List PyData → PyData → Prop} {p p2 : Pos} {es : List Expr} {i : Nat} {t : Addr} (F : Has P w K mg base jj f prs (PT c Pre R)) (hj : jj ≤ k) (j : Nat) (hp : ps[j]? = some (i, t))
    (ha : XA X T ps ρ os es (fun ds os1 => ∃ n, os1[j]? = some (.tin n) ∧ Pre ds ∧ n + c ≤ 2 ^ 60 ∧ ∀ d, R ds d → Φ d (os1.set j (.tin (n + c))))) (nm : nameOk N sc i tn = true := by decide +kernel) (hx : globOk sc f = true := by decide +kernel) (hpl : es.all plainE = true := by rfl) :
    XE X T ps ρ os (.Call (.Name f p) (.Name tn p2 :: es) [] pos) Φ := fun σ H Q s q => by
  refine we_call C F hj hx (by rw [List.all_cons, hpl] <;> rfl) (to_wa (pa_cons pe_we pa_wa (star_plain rfl)) (own_name C s hp nm (ha σ H _ s fun vs H1 ds os1 ⟨n, ho, hpre, hn, f⟩ e1 s1 hv => ?_)))
  obtain ⟨o, e, h1, h2, u, h3, h4⟩ := s1.at hp
  rw [ho] at e
  cases (Option.some.inj e)
  refine ⟨HT T ps, t, vs, ds, n, rfl, s1.ok.1, .inl (h2.mpr True.intro), ⟨u, h3, h4⟩, hv, hpre, hn, fun v H2 d hR e2 ⟨u2, h5, h6⟩ dv => ?_⟩
  refine q v H2 d _ (f d hR) (e1.trans fun a x n h => e2 a x (fun z => n _ (List.mem_of_getElem? hp) z.symm) h) ?_ dv
  exact s1.move (p := (i, t)) hp ho Iff.rfl (fun a x ne h => e2 a x ne h) h5 h6
theorem tin_more {G : Hp} {u : HO} {n m : Nat} (h : OAtU G u (.tin n)) (l : n ≤ m) : OAtU G u (.tin m) := by
  obtain ⟨a, b, c, h1, h2, h3, h4, h5, h6⟩ := h
  exact ⟨a, b, c, h1, h2, h3, h4, h5, by omega⟩
def startT (N : List Str) (ds : List PyData) : List (Option PyData) := none :: ds.map some ++ List.replicate (N.length - (ds.length + 1)) none
theorem start_okT {G : Hp} {t : Addr} {vs : List V} {ds : List PyData} (h : Das G vs ds) : SD (startT N ds) (L2.start N (.ref t :: vs)) G := by
  have s0 : SD (startD N (.none :: ds)) (L2.start N (.non :: vs)) G := start_ok (.cons .non h)
  have e1 : startT N ds = (startD N (.none :: ds)).set 0 none := by
    unfold startT startD
    rw [List.map_cons, List.cons_append, List.cons_append, List.set_cons_zero, List.length_cons]
  have e2 : L2.start N (.ref t :: vs) = (L2.start N (.non :: vs)).set 0 (some (.ref t)) := by
    unfold L2.start
    rw [List.map_cons, List.map_cons, List.cons_append, List.cons_append, List.set_cons_zero, List.length_cons, List.length_cons]
  rw [e1, e2]
  exact s0.put 0 _
theorem fn_tin {x qual : Str} {st : Stmt} {f : Addr} {fd : FuncData} {prs : List Str} {c : Nat} {Pre : List PyData → Prop} {R : List PyData → PyData → Prop} (F : Fun K x qual st f fd) (S : FnScope N prs (defScope st)) (len : ∀ ds, Pre ds → ds.length + 1 = prs.length)
    (body : ∀ X T t n ds, At P w K mg base k N (defScope st) (defScope st) X → Pre ds → n + c ≤ 2 ^ 60 → XB X T [(0, t)] (startT N ds) [.tin n] (defBody st) (fun r => ∃ d m, r = .rt d [.tin m] ∧ m ≤ n + c ∧ R ds d)) : FnOk P w K mg base CX0 (k + 1) f fd prs (PT c Pre R) :=
  fn_any F S (fun vs H Q _ ⟨T, t, vs', ds, n, e, _, _, _, h, hp, _⟩ => by rw [e, List.length_cons, h.length]; exact len ds hp) fun X C vs H Q _ ⟨T, t, vs', ds, n, e, tk, tt, ⟨u, hu, hv⟩, h, hp, hn, q⟩ => by
    subst e
    have eT : HT T [(0, t)] = T := by
      funext a
      refine propext ⟨fun z => ?_, .inl⟩
      rcases z with z | ⟨r, hr, z⟩
      · exact z
      · rw [List.mem_singleton] at hr
        subst hr
        subst z
        exact tt
    have e0 : (L2.start N (.ref t :: vs'))[0]? = some (some (.ref t)) := by
      unfold L2.start
      rw [List.map_cons, List.cons_append] <;> rfl
    have ss : SS T [(0, t)] (startT N ds) [.tin n] (L2.start N (.ref t :: vs')) H := ⟨by rw [eT]; exact ⟨tk, start_okT h⟩, .cons ⟨e0, ⟨fun _ => True.intro, fun _ => tt⟩, u, hu, hv⟩ .nil, by simp⟩
    refine body X T t n ds C hp hn _ H _ ss (fun d os' ⟨d2, m, er, hm, hR⟩ v σ' H' ρ' e s' dv => ?_) fun ρ' os' ⟨d2, m, er, _⟩ => by cases er
    cases er
    obtain ⟨o, e2, h1, h2, u2, h3, h4⟩ := s'.at (j := 0) rfl
    cases (Option.some.inj e2)
    exact q v H' d hR (fun a x ne hx => e a x (fun p hp z => by rw [List.mem_singleton] at hp; subst hp; exact ne z.symm) hx) ⟨u2, h3, tin_more h4 hm⟩ dv
end
end Sk
set_option maxHeartbeats 4000000
namespace Sk
open PySem PySem.Spec PyProof.Rows L2
section
variable {P : Program} {w : World} {K : PySem.W.Frag} {mg : Str → Option Value} {base : Heap}
def R_but (ds : List PyData) (d : PyData) : Prop := ∃ (b : Row) (l : List Spot), ds = [eRow b, .tuple (l.map eSpot)] ∧ b.length ≤ 1000 ∧ d = eRow (b.filter fun p => !l.contains p.1)
theorem ok_law_but {f : Addr} {fd : FuncData} {x : Str} (B : Bt mg) (F : Fun K x x s_law_but f fd) : FnOk P w K mg base CX0 1 f fd ["_law_begun_so", "_law_lost_so"] (Pu R_but) := by
  refine fn_pure F sc_law_but (fun ds d ⟨b, l, e, _⟩ => by rw [e]; rfl) fun X T ds d C ⟨b, l, e, hl, e2⟩ => ?_
  subst e e2
  refine b_ret ((e_tupleL C B (e_lc C [("_law_own", 2)] (ys := b) ePair (fun p => !l.contains p.1) ePair (it_tup (e_var C 0 rfl)) (fun p hp => ⟨_, _, by decide, fun X' T' C' => ⟨tg_name C' 2, ets_one (et_cmp (EC.is (c_notIn C' (e_ix (j := 0) (e_var C' 2 rfl) e_int rfl rfl) (e_var C' 1 rfl) (spot_Lay _) (spots_Lay _)) ?_)), fun _ => e_var C' 2 rfl⟩⟩) (by omega))).is ?_)
  · rw [any_spot]
  · rfl
end
end Sk
set_option maxHeartbeats 8000000
/-! Sk02: the program's defs on forms. -/
namespace Sk
open PySem PySem.Spec PyProof.Rows L2
/-! ### tupled -/
def tupD : PyData → PyData
  | .list ds => .tuple (tupDs ds)
  | .tuple ds => .tuple (tupDs ds)
  | d => d
where tupDs : List PyData → List PyData
  | [] => []
  | d :: ds => tupD d :: tupDs ds
theorem tupDs_map : ∀ ds : List PyData, tupD.tupDs ds = ds.map tupD
  | [] => rfl
  | d :: ds => by rw [tupD.tupDs, tupDs_map ds, List.map_cons]
def okT : Nat → PyData → Bool
  | _, .none => true
  | _, .bool _ => true
  | _, .int _ => true
  | _, .str _ => true
  | n + 1, .list ds => decide (ds.length ≤ 1000) && ds.all (okT n)
  | n + 1, .tuple ds => decide (ds.length ≤ 1000) && ds.all (okT n)
  | _, _ => false
def R_tup (n : Nat) (ds : List PyData) (d : PyData) : Prop := ∃ x, ds = [x] ∧ okT n x = true ∧ d = tupD x
theorem okT_mono : ∀ {n m : Nat} {d : PyData}, n ≤ m → okT n d = true → okT m d = true
  | _, _, .none, _, _ => by simp [okT]
  | _, _, .bool _, _, _ => by simp [okT]
  | _, _, .int _, _, _ => by simp [okT]
  | _, _, .str _, _, _ => by simp [okT]
  | 0, _, .list _, _, h => by simp [okT] at h
  | 0, _, .tuple _, _, h => by simp [okT] at h
  | 0, _, .dict _, _, h => by simp [okT] at h
  | n + 1, _, .dict _, _, h => by simp [okT] at h
  | n + 1, m, .list ds, l, h => by
    obtain ⟨m, rfl⟩ : ∃ m', m = m' + 1 := ⟨m - 1, by omega⟩
    simp only [okT, Bool.and_eq_true, List.all_eq_true] at h ⊢
    exact ⟨h.1, fun d hd => okT_mono (by omega) (h.2 d hd)⟩
  | n + 1, m, .tuple ds, l, h => by
    obtain ⟨m, rfl⟩ : ∃ m', m = m' + 1 := ⟨m - 1, by omega⟩
    simp only [okT, Bool.and_eq_true, List.all_eq_true] at h ⊢
    exact ⟨h.1, fun d hd => okT_mono (by omega) (h.2 d hd)⟩
section
variable {P : Program} {w : World} {K : PySem.W.Frag} {mg : Str → Option Value} {base : Heap}
theorem boot_list : bootBuiltins "list" = some (.type "list") := by decide +kernel
theorem boot_tuple : bootBuiltins "tuple" = some (.type "tuple") := by decide +kernel
theorem kb_NoneType_list : kitB "NoneType" "list" = some false := by decide +kernel
theorem kb_NoneType_tuple : kitB "NoneType" "tuple" = some false := by decide +kernel
theorem kb_NoneType_int : kitB "NoneType" "int" = some false := by decide +kernel
theorem kb_NoneType_bool : kitB "NoneType" "bool" = some false := by decide +kernel
theorem kb_NoneType_str : kitB "NoneType" "str" = some false := by decide +kernel
theorem kb_bool_list : kitB "bool" "list" = some false := by decide +kernel
theorem kb_bool_tuple : kitB "bool" "tuple" = some false := by decide +kernel
theorem kb_bool_int : kitB "bool" "int" = some true := by decide +kernel
theorem kb_bool_bool : kitB "bool" "bool" = some true := by decide +kernel
theorem kb_bool_str : kitB "bool" "str" = some false := by decide +kernel
theorem kb_int_list : kitB "int" "list" = some false := by decide +kernel
theorem kb_int_tuple : kitB "int" "tuple" = some false := by decide +kernel
theorem kb_int_int : kitB "int" "int" = some true := by decide +kernel
theorem kb_int_bool : kitB "int" "bool" = some false := by decide +kernel
theorem kb_int_str : kitB "int" "str" = some false := by decide +kernel
theorem kb_str_list : kitB "str" "list" = some false := by decide +kernel
theorem kb_str_tuple : kitB "str" "tuple" = some false := by decide +kernel
theorem kb_str_int : kitB "str" "int" = some false := by decide +kernel
theorem kb_str_bool : kitB "str" "bool" = some false := by decide +kernel
theorem kb_str_str : kitB "str" "str" = some true := by decide +kernel
theorem kb_list_list : kitB "list" "list" = some true := by decide +kernel
theorem kb_list_tuple : kitB "list" "tuple" = some false := by decide +kernel
theorem kb_list_int : kitB "list" "int" = some false := by decide +kernel
theorem kb_list_bool : kitB "list" "bool" = some false := by decide +kernel
theorem kb_list_str : kitB "list" "str" = some false := by decide +kernel
theorem kb_tuple_list : kitB "tuple" "list" = some false := by decide +kernel
theorem kb_tuple_tuple : kitB "tuple" "tuple" = some true := by decide +kernel
theorem kb_tuple_int : kitB "tuple" "int" = some false := by decide +kernel
theorem kb_tuple_bool : kitB "tuple" "bool" = some false := by decide +kernel
theorem kb_tuple_str : kitB "tuple" "str" = some false := by decide +kernel
/-- one level of tupled -/
theorem tup_step {f : Addr} {fd : FuncData} (B : Bt mg) (F : Fun K "tupled" "tupled" s_tupled f fd) (n : Nat) (H : ∀ m, n = m + 1 → Has P w K mg base (m + 1) "tupled" ["value"] (Pu (R_tup m))) :
    FnOk P w K mg base CX0 (n + 1) f fd ["value"] (Pu (R_tup n)) := by
  refine fn_pure F sc_tupled (fun ds d ⟨x, e, _⟩ => by rw [e]; rfl) fun X T ds d C ⟨x, e, ho, e2⟩ => ?_
  subst e e2
  cases x with
  | none => exact b_ret (e_if (et_val (e_isi2 C B (e_var C 0 rfl) B.list boot_list B.tuple boot_tuple (b := false) (c := false) kb_NoneType_list kb_NoneType_tuple)) (fun z => by cases z) fun _ => e_var C 0 rfl)
  | bool b => exact b_ret (e_if (et_val (e_isi2 C B (e_var C 0 rfl) B.list boot_list B.tuple boot_tuple (b := false) (c := false) kb_bool_list kb_bool_tuple)) (fun z => by cases z) fun _ => e_var C 0 rfl)
  | int b => exact b_ret (e_if (et_val (e_isi2 C B (e_var C 0 rfl) B.list boot_list B.tuple boot_tuple (b := false) (c := false) kb_int_list kb_int_tuple)) (fun z => by cases z) fun _ => e_var C 0 rfl)
  | str b => exact b_ret (e_if (et_val (e_isi2 C B (e_var C 0 rfl) B.list boot_list B.tuple boot_tuple (b := false) (c := false) kb_str_list kb_str_tuple)) (fun z => by cases z) fun _ => e_var C 0 rfl)
  | dict b => cases n <;> simp [okT] at ho
  | list ds =>
    cases n with
    | zero => simp [okT] at ho
    | succ m =>
      simp only [okT, Bool.and_eq_true, decide_eq_true_eq, List.all_eq_true] at ho
      exact b_ret (e_if (et_val (e_isi2 C B (e_var C 0 rfl) B.list boot_list B.tuple boot_tuple (b := true) (c := false) kb_list_list kb_list_tuple)) (fun _ => (e_tupleL C B (e_lc C [("own", 1)] (ys := ds) (fun d => d) (fun _ => true) tupD (by rw [List.map_id']; exact it_list (e_var C 0 rfl)) (fun y hy => ⟨_, _, by decide, fun X' T' C' => ⟨tg_name C' 1, ets_nil, fun _ => e_call C' (H m rfl) (Nat.le_refl _) (ea_cons (e_var C' 1 rfl) ea_nil) ⟨y, rfl, ho.2 y hy, rfl⟩⟩⟩) (by omega))).is (by rw [made_all, tupD, tupDs_map])) fun z => by cases z)
  | tuple ds =>
    cases n with
    | zero => simp [okT] at ho
    | succ m =>
      simp only [okT, Bool.and_eq_true, decide_eq_true_eq, List.all_eq_true] at ho
      exact b_ret (e_if (et_val (e_isi2 C B (e_var C 0 rfl) B.list boot_list B.tuple boot_tuple (b := false) (c := true) kb_tuple_list kb_tuple_tuple)) (fun _ => (e_tupleL C B (e_lc C [("own", 1)] (ys := ds) (fun d => d) (fun _ => true) tupD (by rw [List.map_id']; exact it_tup (e_var C 0 rfl)) (fun y hy => ⟨_, _, by decide, fun X' T' C' => ⟨tg_name C' 1, ets_nil, fun _ => e_call C' (H m rfl) (Nat.le_refl _) (ea_cons (e_var C' 1 rfl) ea_nil) ⟨y, rfl, ho.2 y hy, rfl⟩⟩⟩) (by omega))).is (by rw [made_all, tupD, tupDs_map])) fun z => by cases z)
/-- a def of the text, with its place -/
structure Def (K : PySem.W.Frag) (mg : Str → Option Value) (x : Str) (st : Stmt) (ps : List Str) (f : Addr) (fd : FuncData) : Prop where
  fn : Fun K x x st f fd
  mg : mg x = some (.ref f)
  keep : PySem.W.keepIn K (.ref f) = true
  binds : Binds K fd ps []
theorem Def.has {x : Str} {st : Stmt} {ps : List Str} {f : Addr} {fd : FuncData} {n : Nat} {sp : Sp} (D : Def K mg x st ps f fd) (h : FnOk P w K mg base CX0 n f fd ps sp) : Has P w K mg base n x ps sp := ⟨f, fd, h, D.mg, D.keep, D.binds⟩
theorem ok_tupled {f : Addr} {fd : FuncData} (B : Bt mg) (D : Def K mg "tupled" s_tupled ["value"] f fd) : ∀ n, FnOk P w K mg base CX0 (n + 1) f fd ["value"] (Pu (R_tup n))
  | 0 => tup_step B D.fn 0 fun m h => by cases h
  | n + 1 => tup_step B D.fn (n + 1) fun m h => by
    have e : n = m := by omega
    subst e
    exact D.has (ok_tupled B D n)
end
end Sk
set_option maxHeartbeats 8000000
/-! Sk03: the program's defs on forms. -/
namespace Sk
open PySem PySem.Spec PyProof.Rows L2
theorem bare_spot (s : Spot) : bareD (eSpot s) = true := rfl
theorem bare_pair (p : Pr) : bareD (ePair p) = true := rfl
theorem bare_row (r : Row) : bareD (eRow r) = true := by
  unfold eRow
  rw [bareD]
  induction r with
  | nil => rfl
  | cons p r ih => rw [List.map_cons, bareD.bareDs, bare_pair, ih] <;> rfl
theorem keyed_row : Keyed eRow := { kind_row with bare := bare_row, tup := fun r => ⟨_, rfl⟩ }
/-! ### the mirrors -/
def setOf (f : List Row) : List Row := dsort eRow (dd f)
def overAt (r : Row) (p : Pr) : Bool := (getS (dictS r) p.1).isSome && (match getS (dictS r) p.1 with | some v => decide (p.2 ≤ v) | none => false)
def isOver (r o : Row) : Bool := o.all (overAt r)
def leastOf (f : List Row) : List Row := (setOf f).filter fun row => !((setOf f).any fun other => decide (row ≠ other) && isOver row other)
def pairsOf (ss : List Spot) : List Row := (ss.zipIdx 0).flatMap fun y => (ss.drop (y.2 + 1)).map fun z => [(y.1, 0), (z, 0)]
def knockForm (ss : List Spot) (n : Int) : List Row := if n = 1 then ss.map fun s => [(s, 0)] else setOf (pairsOf ss)
def afterF (f : List Row) (n : Int) : List Row := f.map fun r => r.map fun p => (p.1, p.2 + n)
def mixS (acc : Row) (p : Pr) : Row := putS acc p.1 (max p.2 ((getS acc p.1).getD 0))
def joinedR (r o : Row) : Row := dsort ePair (o.foldl mixS (dictS r))
def eitherF (f g : List Row) : List Row := leastOf (f ++ g)
def bothF (f g : List Row) : List Row := leastOf (f.flatMap fun r => g.map fun m => joinedR r m)
def withoutF (f : List Row) (ss : List Spot) : List Row := f.filter fun r => !(r.any fun p => ss.contains p.1)
theorem mem_setOf {f : List Row} {r : Row} : r ∈ setOf f ↔ r ∈ f := by
  unfold setOf
  rw [(dsort_perm eRow (dd f)).mem_iff, mem_dd]
theorem setOf_len (f : List Row) : (setOf f).length = (dd f).length := (dsort_perm eRow (dd f)).length_eq
section
variable {P : Program} {w : World} {K : PySem.W.Frag} {mg : Str → Option Value} {base : Heap}
/-! ### set_of -/
/-- rows in a list or a tuple -/
def Rows (f : List Row) (x : PyData) : Prop := x = .tuple (f.map eRow) ∨ x = .list (f.map eRow)
def R_set_of (ds : List PyData) (d : PyData) : Prop := ∃ f x, ds = [x] ∧ Rows f x ∧ (dd f).length < 64 ∧ (∀ r ∈ f, r ≠ []) ∧ d = eForm (setOf f)
theorem ok_set_of {f : Addr} {fd : FuncData} (B : Bt mg) (F : Fun K "set_of" "set_of" s_set_of f fd) : FnOk P w K mg base CX0 1 f fd ["row"] (Pu R_set_of) := by
  refine fn_pure F sc_set_of (fun ds d ⟨f, x, e, _⟩ => by rw [e]; rfl) fun X T ds d C ⟨f, x, e, hx, few, ne, e2⟩ => ?_
  subst e e2
  exact b_ret (e_tupleL C B (e_sortSet C B keyed_row (fun zs h => sortable_row zs fun r hr => ne r (h r hr)) (e_var C 0 rfl) hx few))
/-! ### is_over -/
def R_is_over (ds : List PyData) (d : PyData) : Prop := ∃ r o : Row, ds = [eRow r, eRow o] ∧ o.length ≤ 1000 ∧ d = .bool (isOver r o)
theorem ok_is_over {f : Addr} {fd : FuncData} (B : Bt mg) (F : Fun K "is_over" "is_over" s_is_over f fd) : FnOk P w K mg base CX0 1 f fd ["row", "other"] (Pu R_is_over) := by
  refine fn_pure F sc_is_over (fun ds d ⟨r, o, e, _⟩ => by rw [e]; rfl) fun X T ds d C ⟨r, o, e, hl, e2⟩ => ?_
  subst e e2
  refine b_set C 2 (e_dict C B (e_var C 0 rfl)) (b_ret ((e_all (bs := o.map (overAt r)) C B (E.is (e_lc C [("spot", 3), ("number", 4)] (ys := o) ePair (fun _ => true) (fun p => .bool (overAt r p)) (it_tup (e_var C 1 rfl)) (fun p hp => ⟨_, _, by decide, fun X' T' C' => ⟨tg_tup C' (tgs_cons (tg_name C' 3) (tgs_cons (tg_name C' 4) tgs_nil)), ets_nil, fun _ => ?_⟩⟩) (by omega)) ?_)).is ?_))
  · refine e_and (e_cmp (c_inD C' (e_var C' 3 rfl) (e_var C' 2 rfl))) fun h => e_one ?_
    cases hv : getS (dictS r) p.1 with
    | none => rw [hv] at h; cases h
    | some v => exact e_cmp (c_ge (e_ixD C' (e_var C' 2 rfl) (e_var C' 3 rfl) hv) (e_var C' 4 rfl))
  · rw [made_all, List.map_map] <;> rfl
  · rw [isOver, List.all_map] <;> rfl
/-! ### least_of -/
def R_least_of (ds : List PyData) (d : PyData) : Prop := ∃ f x, ds = [x] ∧ Rows f x ∧ (dd f).length < 64 ∧ (∀ r ∈ f, r ≠ [] ∧ r.length ≤ 1000) ∧ d = eForm (leastOf f)
theorem ok_least_of {f : Addr} {fd : FuncData} (B : Bt mg) (F : Fun K "least_of" "least_of" s_least_of f fd) (H1 : Has P w K mg base 1 "set_of" ["row"] (Pu R_set_of)) (H2 : Has P w K mg base 1 "is_over" ["row", "other"] (Pu R_is_over)) : FnOk P w K mg base CX0 2 f fd ["rows"] (Pu R_least_of) := by
  refine fn_pure F sc_least_of (fun ds d ⟨f, x, e, _⟩ => by rw [e]; rfl) fun X T ds d C ⟨f, x, e, hx, few, ne, e2⟩ => ?_
  subst e e2
  have hl := setOf_len f
  refine b_set C 1 (e_call C H1 (Nat.le_refl _) (ea_cons (e_var C 0 rfl) ea_nil) ⟨f, x, rfl, hx, few, fun r hr => (ne r hr).1, rfl⟩) (b_ret ((e_tupleL C B (e_lc C [("row", 2)] (ys := setOf f) eRow (fun row => !((setOf f).any fun other => decide (row ≠ other) && isOver row other)) eRow (it_tup (e_var C 1 rfl)) (fun y hy => ⟨_, _, by decide, fun X' T' C' => ⟨tg_name C' 2, ets_one (et_not (et_val ((e_any (bs := (setOf f).map fun other => decide (y ≠ other) && isOver y other) C' B (E.is (e_lc C' [("other", 3)] (ys := setOf f) eRow (fun _ => true) (fun o => .bool (decide (y ≠ o) && isOver y o)) (it_tup (e_var C' 1 rfl)) (fun o ho => ⟨_, _, by decide, fun X2 T2 C2 => ⟨tg_name C2 3, ets_nil, fun _ => e_and (e_cmp ((c_ne C2 (e_var C2 2 rfl) (e_var C2 3 rfl) (row_Lay _) (row_Lay _)).is ?_)) fun _ => e_one (e_call C2 H2 (Nat.le_refl _) (ea_cons (e_var C2 2 rfl) (ea_cons (e_var C2 3 rfl) ea_nil)) ⟨y, o, rfl, (ne o (mem_setOf.mp ho)).2, rfl⟩)⟩⟩) (by omega)) ?_)).is ?_))), fun _ => e_var C' 2 rfl⟩⟩) (by omega))).is rfl))
  · rw [row_eqv, decide_not]
  · rw [made_all, List.map_map] <;> rfl
  · rw [List.any_map] <;> rfl
/-! ### a, b = (x, y) -/
theorem b_par {k : Nat} {N : List Str} {sc own : Scope} {X : Cx} {T : Dom} {ρ : List (Option PyData)} {pos : Pos} (C : At P w K mg base k N sc own X) (i j : Nat) {x y : Str} {a b : Expr} {d e : PyData} {rest : List Stmt} {o : Out} {px py pt pt2 : Pos} {kt k2 : Nat} (ha : E X T ρ a d) (hb : E X T ρ b e) (hr : BO X T ((ρ.set i (some d)).set j (some e)) rest o)
    (hw : ∀ env : Env, env.scope = sc → swappedStores [.Tuple [.Name x px, .Name y py] kt pt] (.Tuple [a, b] k2 pt2) env = pure (some [x, y]) := by intro env h; cases env; subst h; rfl)
    (hi : N[i]? = some x := by decide +kernel) (hj : N[j]? = some y := by decide +kernel) (hij : i ≠ j := by decide) (hx : sc.names.lookup x = some .local := by decide +kernel) (hy : sc.names.lookup y = some .local := by decide +kernel)
    (hs : swapsWithSole [.Tuple [.Name x px, .Name y py] kt pt] (.Tuple [a, b] k2 pt2) pos.line X.env = pure false := by rfl) (hp : plainE a = true := by rfl) (hp2 : plainE b = true := by rfl) :
    BO X T ρ (.Assign [.Tuple [.Name x px, .Name y py] kt pt] (.Tuple [a, b] k2 pt2) pos :: rest) o := fun σ H D ok q =>
  wss_cons (to_ws (ps_par C.calm (by rw [C.eN]; exact C.nd) (by rw [C.eN]; exact hi) (by rw [C.eN]; exact hj) hij (by rw [C.esc]; exact hx) (by rw [C.esc]; exact hy) pa_wa (hw X.env C.esc) hs) (twoA ha hb ok hp hp2 fun v u H1 e1 hv hu =>
    ⟨v, u, rfl, hr _ H1 D (((ok.same e1).set hv).set hu) (go_same q e1)⟩))
theorem b_asgC {k : Nat} {N : List Str} {sc own : Scope} {X : Cx} {T : Dom} {ρ ρ' : List (Option PyData)} {pos : Pos} (C : At P w K mg base k N sc own X) {tg e : Expr} {d : PyData} {is : List Nat} {rest : List Stmt} {o : Out} (h : E X T ρ e d) (hg : TG1 X T tg d ρ ρ' is) (hr : BO X T ρ' rest o) (hs : swapsWithSole [tg] e pos.line X.env = pure false := by rfl)
    (hw : ∀ env : Env, env.scope = sc → swappedStores [tg] e env = pure none := by intro env h; cases env; subst h; rfl) (h1 : (assignEach [tg] X.env).map (·.2) = [assign tg X.env] := by rfl) : BO X T ρ (.Assign [tg] e pos :: rest) o := b_asg C h hg hr hs (hw X.env C.esc) h1
/-! ### shapes under tupled -/
theorem okT_all {α : Type} {en : α → PyData} {n : Nat} (h : ∀ a, okT n (en a) = true) (l : List α) (hl : l.length ≤ 1000) : okT (n + 1) (.tuple (l.map en)) = true := by
  simp only [okT, Bool.and_eq_true, decide_eq_true_eq, List.length_map, List.all_eq_true]
  refine ⟨hl, fun d hd => ?_⟩
  obtain ⟨a, _, rfl⟩ := List.mem_map.mp hd
  exact h a
theorem okT_all' {α : Type} {en : α → PyData} {n : Nat} (l : List α) (h : ∀ a ∈ l, okT n (en a) = true) (hl : l.length ≤ 1000) : okT (n + 1) (.tuple (l.map en)) = true := by
  simp only [okT, Bool.and_eq_true, decide_eq_true_eq, List.length_map, List.all_eq_true]
  refine ⟨hl, fun d hd => ?_⟩
  obtain ⟨a, ha, rfl⟩ := List.mem_map.mp hd
  exact h a ha
theorem tupD_all {α : Type} {en : α → PyData} (h : ∀ a, tupD (en a) = en a) (l : List α) : tupD (.tuple (l.map en)) = .tuple (l.map en) := by
  rw [tupD, tupDs_map, List.map_map]
  congr 1
  exact List.map_congr_left fun a _ => h a
theorem okT_spot (s : Spot) : okT 1 (eSpot s) = true := rfl
theorem okT_pair (p : Pr) : okT 2 (ePair p) = true := rfl
theorem okT_row (r : Row) (h : r.length ≤ 1000) : okT 3 (eRow r) = true := okT_all okT_pair r h
theorem tupD_spot (s : Spot) : tupD (eSpot s) = eSpot s := rfl
theorem tupD_pair (p : Pr) : tupD (ePair p) = ePair p := rfl
theorem tupD_row (r : Row) : tupD (eRow r) = eRow r := tupD_all tupD_pair r
theorem tupD_form (f : List Row) : tupD (eForm f) = eForm f := tupD_all tupD_row f
/-- a form of fair size -/
def Fit (f : List Row) : Prop := f.length ≤ 400 ∧ ∀ r ∈ f, r ≠ [] ∧ r.length ≤ 100
theorem Fit.okT {f : List Row} (h : Fit f) : okT 4 (eForm f) = true := okT_all' f (fun r hr => okT_row r (by have := (h.2 r hr).2; omega)) (by have := h.1; omega)
abbrev HTup (P : Program) (w : World) (K : PySem.W.Frag) (mg : Str → Option Value) (base : Heap) : Prop := Has P w K mg base 9 "tupled" ["value"] (Pu (R_tup 8))
theorem e_tupled {k : Nat} {N : List Str} {sc own : Scope} {X : Cx} {T : Dom} {ρ : List (Option PyData)} {pos p : Pos} (C : At P w K mg base k N sc own X) (H : HTup P w K mg base) (hk : 9 ≤ k) {a : Expr} {x : PyData} (n : Nat) (ha : E X T ρ a x) (ho : okT n x = true) (hn : n ≤ 8) (hx : globOk sc "tupled" = true := by decide +kernel) (hp : plainE a = true := by rfl) :
    E X T ρ (.Call (.Name "tupled" p) [a] [] pos) (tupD x) := e_call C H hk (ea_cons ha ea_nil hp) ⟨x, rfl, okT_mono hn ho, rfl⟩ hx (by rw [List.all_cons, hp]; rfl)
theorem e_tp {X : Cx} {T : Dom} {ρ : List (Option PyData)} {pos : Pos} {es : List Expr} {ds : List PyData} {j : Nat} (h : EA X T ρ es ds) (hl : ds.length ≤ 1000 := by exact Nat.le_of_ble_eq_true rfl) : E X T ρ (.Tuple es j pos) (.tuple ds) := e_tup h hl
theorem eo_some {X : Cx} {T : Dom} {ρ : List (Option PyData)} {e : Expr} {n : Nat} (h : E X T ρ e (.int (n : Int))) : EO X T ρ (some e) (some n) := h
theorem eo_none {X : Cx} {T : Dom} {ρ : List (Option PyData)} : EO X T ρ none none := True.intro
/-! ### knock_form -/
theorem numbered_zip {α : Type} (en : α → PyData) : ∀ (n : Nat) (l : List α), numbered n (l.map en) = (l.zipIdx n).map fun q => .tuple [.int (q.2 : Int), en q.1]
  | _, [] => rfl
  | n, a :: l => by rw [List.map_cons, numbered, List.zipIdx_cons, List.map_cons, numbered_zip en (n + 1) l]
theorem pairs_len (ss : List Spot) (h : ss.length ≤ 8) : (pairsOf ss).length ≤ 63 := by
  unfold pairsOf
  match ss, h with
  | [], _ => decide
  | [a], _ => simp
  | [a, b], _ => simp
  | [a, b, c], _ => simp
  | [a, b, c, d], _ => simp
  | [a, b, c, d, e], _ => simp
  | [a, b, c, d, e, f], _ => simp
  | [a, b, c, d, e, f, g], _ => simp
  | [a, b, c, d, e, f, g, h], _ => simp
  | _ :: _ :: _ :: _ :: _ :: _ :: _ :: _ :: _ :: _, h => simp at h
def R_knock (ds : List PyData) (d : PyData) : Prop := ∃ (ss : List Spot) (n : Int), ds = [.tuple (ss.map eSpot), .int n] ∧ ss.length ≤ 8 ∧ d = eForm (knockForm ss n)
theorem ok_knock_form {f : Addr} {fd : FuncData} (B : Bt mg) (F : Fun K "knock_form" "knock_form" s_knock_form f fd) (H : HTup P w K mg base) (H1 : Has P w K mg base 1 "set_of" ["row"] (Pu R_set_of)) : FnOk P w K mg base CX0 10 f fd ["spots", "number"] (Pu R_knock) := by
  refine fn_pure F sc_knock_form (fun ds d ⟨ss, n, e, _⟩ => by rw [e]; rfl) fun X T ds d C ⟨ss, n, e, hl, e2⟩ => ?_
  subst e e2
  refine b_set C 2 ((e_tupled C H (Nat.le_refl _) 2 (e_var C 0 rfl) (okT_all okT_spot ss (by omega)) (by decide)).is (tupD_all tupD_spot ss)) (b_ifC (et_cmp (c_eqI (e_var C 1 rfl) e_int)) (fun h => ?_) fun h => ?_)
  · have hn : n = 1 := of_decide_eq_true h
    refine b_ret ((e_tupleL C B (e_lc C [("spot", 3)] (ys := ss) eSpot (fun _ => true) (fun s => eRow [(s, 0)]) (it_tup (e_var C 2 rfl)) (fun y hy => ⟨_, _, by decide, fun X' T' C' => ⟨tg_name C' 3, ets_nil, fun _ => e_tp (ea_cons (e_tp (ea_cons (e_var C' 3 rfl) (ea_cons e_int ea_nil))) ea_nil)⟩⟩) (by omega))).is ?_)
    rw [made_all, knockForm, if_pos hn, eForm, List.map_map] <;> rfl
  · have hn : ¬ n = 1 := of_decide_eq_false h
    have hz := pairs_len ss hl
    refine b_ret ((e_call C H1 (by decide) (ea_cons (E.is (e_lc2 C [("place", 4), ("one", 5), ("other", 6)] [6] (ys := ss.zipIdx 0) (fun q => .tuple [.int (q.2 : Int), eSpot q.1]) (fun q => ss.drop (q.2 + 1)) (fun _ => eSpot) (fun q z => eRow [(q.1, 0), (z, 0)]) (by rw [← numbered_zip]; exact it_enumT C B (e_var C 2 rfl)) (fun y hy => ⟨_, _, by decide, fun X' T' C' => ⟨tg_tup C' (tgs_cons (tg_name C' 4) (tgs_cons (tg_name C' 5) tgs_nil)), ?_⟩, fun z hz => ⟨_, _, by decide, fun X' T' C' => ⟨tg_name C' 6, e_tp (ea_cons (e_tp (ea_cons (e_var C' 5 rfl) (ea_cons e_int ea_nil))) (ea_cons (e_tp (ea_cons (e_var C' 6 rfl) (ea_cons e_int ea_nil))) ea_nil))⟩⟩⟩) ?_) ?_) ea_nil) ⟨pairsOf ss, _, rfl, .inr rfl, ?_, ?_, rfl⟩).is ?_)
    · refine it_tup ((e_sl (e_var C' 2 rfl) (l := some (y.2 + 1)) (u := none) (eo_some ((e_add (e_var C' 4 rfl) e_int).is (congrArg PyData.int (by omega)))) eo_none).is ?_)
      show PyData.tuple ((ss.map eSpot).drop (y.2 + 1)) = _
      rw [List.map_drop]
    · have h1 : ((ss.zipIdx 0).flatMap fun y => (ss.drop (y.2 + 1)).map fun z => eRow [(y.1, 0), (z, 0)]).length = (pairsOf ss).length := by
        unfold pairsOf
        simp only [List.length_flatMap, List.length_map]
      rw [h1]
      omega
    · unfold pairsOf
      simp only [List.map_flatMap, List.map_map]
      rfl
    · have := dd_len_le (pairsOf ss); omega
    · intro r hr
      unfold pairsOf at hr
      obtain ⟨y, _, hr⟩ := List.mem_flatMap.mp hr
      obtain ⟨z, _, rfl⟩ := List.mem_map.mp hr
      simp
    · rw [knockForm, if_neg hn]
end
end Sk
set_option maxHeartbeats 8000000
/-! Sk04: after, joined, either, both, without. -/
namespace Sk
open PySem PySem.Spec PyProof.Rows L2
section
variable {P : Program} {w : World} {K : PySem.W.Frag} {mg : Str → Option Value} {base : Heap}
/-! ### after -/
def R_after (ds : List PyData) (d : PyData) : Prop := ∃ (f : List Row) (n : Int), ds = [eForm f, .int n] ∧ Fit f ∧ d = eForm (afterF f n)
theorem ok_after {f : Addr} {fd : FuncData} (B : Bt mg) (F : Fun K "after" "after" s_after f fd) (H : HTup P w K mg base) : FnOk P w K mg base CX0 10 f fd ["form", "plus"] (Pu R_after) := by
  refine fn_pure F sc_after (fun ds d ⟨ss, n, e, _⟩ => by rw [e]; rfl) fun X T ds d C ⟨f, n, e, hf, e2⟩ => ?_
  subst e e2
  refine b_ret ((e_tupleL C B (e_lc C [("spot", 2), ("number", 3), ("row", 4)] (ys := f) eRow (fun _ => true) (fun r => eRow (r.map fun p => (p.1, p.2 + n))) (it_tup ((e_tupled C H (Nat.le_refl _) 4 (e_var C 0 rfl) hf.okT (by decide)).is (tupD_form f))) (fun r hr => ⟨_, _, by decide, fun X' T' C' => ⟨tg_name C' 4, ets_nil, fun _ => ((e_tupleL C' B (e_lc C' [("spot", 2), ("number", 3)] (ys := r) ePair (fun _ => true) (fun p => ePair (p.1, p.2 + n)) (it_tup (e_var C' 4 rfl)) (fun p hp => ⟨_, _, by decide, fun X2 T2 C2 => ⟨tg_tup C2 (tgs_cons (tg_name C2 2) (tgs_cons (tg_name C2 3) tgs_nil)), ets_nil, fun _ => e_tp (ea_cons (e_var C2 2 rfl) (ea_cons (e_add (e_var C2 3 rfl) (e_var C2 1 rfl)) ea_nil))⟩⟩) (by have := (hf.2 r hr).2; omega))).is ?_)⟩⟩) (by have := hf.1; omega))).is ?_)
  · rw [made_all]
    show PyData.tuple _ = PyData.tuple (List.map ePair (r.map _))
    rw [List.map_map] <;> rfl
  · rw [made_all, afterF, eForm, List.map_map] <;> rfl
/-! ### joined -/
def R_joined (ds : List PyData) (d : PyData) : Prop := ∃ (r o : Row), ds = [eRow r, eRow o] ∧ r.length ≤ 100 ∧ o.length ≤ 100 ∧ d = eRow (joinedR r o)
theorem mixS_len : ∀ (o acc : Row), (o.foldl mixS acc).length ≤ acc.length + o.length
  | [], acc => by simp
  | p :: o, acc => by
    rw [List.foldl_cons, List.length_cons]
    have h1 := mixS_len o (mixS acc p)
    have h2 := putS_len acc p.1 (max p.2 ((getS acc p.1).getD 0))
    unfold mixS at h1
    unfold mixS
    omega
theorem ok_joined {f : Addr} {fd : FuncData} (B : Bt mg) (F : Fun K "joined" "joined" s_joined f fd) : FnOk P w K mg base CX0 1 f fd ["row", "other"] (Pu R_joined) := by
  refine fn_pure F sc_joined (fun ds d ⟨ss, n, e, _⟩ => by rw [e]; rfl) fun X T ds d C ⟨r, o, e, hr, ho, e2⟩ => ?_
  subst e e2
  have dl := dictS_len r
  refine bo_of (w_new C 2 (Φo := fun x os1 => x = .dct (dictS r) ∧ os1 = []) (xf_dict C B (e_var C 0 rfl) ⟨rfl, rfl⟩) fun a x os1 ⟨e1, e2⟩ => ?_)
  subst e1 e2
  refine w_for C (ΦA := fun xs os1 => xs = o.map ePair ∧ os1 = [.dct (dictS r)]) (fun xs i ρi osi => xs = o.map ePair ∧ (∃ u v, ρi = [some (eRow r), some (eRow o), none, u, v]) ∧ osi = [.dct ((o.take i).foldl mixS (dictS r))]) (i_of (it_tup (e_var C 1 rfl)) ⟨rfl, rfl⟩) (fun xs os1 ⟨e1, e2⟩ => ⟨e1, ⟨none, none, rfl⟩, by rw [e2, List.take_zero] <;> rfl⟩) (fun xs i h ρi osi ⟨e1, ⟨u, v, e2⟩, e3⟩ => ?_) fun xs ρe ose ⟨e1, ⟨u, v, e2⟩, e3⟩ => ?_
  · subst e1 e2 e3
    have hi : i < o.length := by simpa using h
    have hx : (o.map ePair)[i] = ePair o[i] := by rw [List.getElem_map]
    rw [hx]
    refine ⟨_, _, tg_tup C (tgs_cons (tg_name C 3) (tgs_cons (tg_name C 4) tgs_nil)), rfl, ?_⟩
    have ml := mixS_len (o.take i) (dictS r)
    have tl : (o.take i).length ≤ o.length := by rw [List.length_take]; omega
    refine w_put C 0 (rw_ := (o.take i).foldl mixS (dictS r)) (z := o[i].1) rfl rfl (e_max2 C B (e_var C 4 rfl) (e_get2 C (e_var C 2 rfl) (e_var C 3 rfl) e_int ⟨rfl, rfl, rfl, rfl⟩)) (e_var C 3 rfl) (by omega) (w_nil ⟨rfl, ⟨_, _, rfl⟩, ?_⟩)
    rw [take_snoc (List.getElem?_eq_getElem hi), List.foldl_append] <;> rfl
  · subst e1 e2 e3
    rw [List.length_map, List.take_length]
    refine w_retF ((e_tupleL C B (e_sorted C B kind_pair (sortable_pair _) (e_items C B (r := o.foldl mixS (dictS r)) (e_var C 2 rfl))))) rfl
/-! ### either, both -/
def R_either (ds : List PyData) (d : PyData) : Prop := ∃ (f g : List Row), ds = [eForm f, eForm g] ∧ Fit f ∧ Fit g ∧ f.length + g.length < 64 ∧ d = eForm (eitherF f g)
abbrev HLeast (P : Program) (w : World) (K : PySem.W.Frag) (mg : Str → Option Value) (base : Heap) : Prop := Has P w K mg base 2 "least_of" ["rows"] (Pu R_least_of)
theorem ok_either {f : Addr} {fd : FuncData} (B : Bt mg) (F : Fun K "either" "either" s_either f fd) {t : Tok} (hm : mg "MOST_ROWS" = some (.int 400 t)) (H : HTup P w K mg base) (H2 : HLeast P w K mg base) : FnOk P w K mg base CX0 10 f fd ["form", "other"] (Pu R_either) := by
  refine fn_pure F sc_either (fun ds d ⟨ss, n, e, _⟩ => by rw [e]; rfl) fun X T ds d C ⟨f, g, e, hf, hg, hl, e2⟩ => ?_
  subst e e2
  refine b_par C 2 3 ((e_tupled C H (Nat.le_refl _) 4 (e_var C 0 rfl) hf.okT (by decide)).is (tupD_form f)) ((e_tupled C H (Nat.le_refl _) 4 (e_var C 1 rfl) hg.okT (by decide)).is (tupD_form g)) ?_
  refine b_ifF (et_cmp ((c_gt (e_add (e_len C B (e_var C 2 rfl) (.inl rfl)) (e_len C B (e_var C 3 rfl) (.inl rfl))) (e_glob C hm)).is ?_)) ?_
  · rw [List.length_map, List.length_map, decide_eq_false_iff_not]
    omega
  · refine b_ret (e_call C H2 (by decide) (ea_cons (e_cat (e_var C 2 rfl) (e_var C 3 rfl) (by rw [List.length_map, List.length_map]; omega)) ea_nil) ⟨f ++ g, _, rfl, .inl (by rw [List.map_append]), ?_, fun r hr => ?_, rfl⟩)
    · have := dd_len_le (f ++ g)
      rw [List.length_append] at this
      omega
    · rcases List.mem_append.mp hr with hr | hr
      · exact ⟨(hf.2 r hr).1, by have := (hf.2 r hr).2; omega⟩
      · exact ⟨(hg.2 r hr).1, by have := (hg.2 r hr).2; omega⟩
theorem dsort_len {α : Type} (en : α → PyData) (l : List α) : (dsort en l).length = l.length := (dsort_perm en l).length_eq
theorem putS_pos (acc : Row) (k : Spot) (v : Int) : putS acc k v ≠ [] := by
  unfold putS
  split
  · rename_i h
    intro z
    rw [List.map_eq_nil_iff] at z
    subst z
    simp at h
  · simp
theorem fold_pos {g : Row → Pr → Row} (hg : ∀ a p, g a p ≠ []) : ∀ (r acc : Row), r ≠ [] ∨ acc ≠ [] → r.foldl g acc ≠ []
  | [], acc, h => by
    rcases h with h | h
    · exact absurd rfl h
    · exact h
  | p :: r, acc, _ => by
    rw [List.foldl_cons]
    exact fold_pos hg r _ (.inr (hg acc p))
theorem joined_pos {r o : Row} (h : r ≠ []) : joinedR r o ≠ [] := by
  intro z
  have hl := dsort_len ePair (o.foldl mixS (dictS r))
  unfold joinedR at z
  rw [z, List.length_nil] at hl
  exact fold_pos (fun a p => putS_pos _ _ _) o _ (.inr (fold_pos (fun a p => putS_pos _ _ _) r [] (.inl h))) (List.length_eq_zero_iff.mp hl.symm)
theorem joined_len (r o : Row) : (joinedR r o).length ≤ r.length + o.length := by
  unfold joinedR
  rw [dsort_len]
  have h1 := mixS_len o (dictS r)
  have h2 := dictS_len r
  omega
def R_both (ds : List PyData) (d : PyData) : Prop := ∃ (f g : List Row), ds = [eForm f, eForm g] ∧ Fit f ∧ Fit g ∧ f.length * g.length < 64 ∧ d = eForm (bothF f g)
theorem flat_len {α β : Type} (h : α → β → Row) (f : List α) (g : List β) : (f.flatMap fun r => g.map (h r)).length = f.length * g.length := by
  induction f with
  | nil => simp
  | cons a f ih => rw [List.flatMap_cons, List.length_append, ih, List.length_map, List.length_cons, Nat.succ_mul, Nat.add_comm]
theorem ok_both {f : Addr} {fd : FuncData} (B : Bt mg) (F : Fun K "both" "both" s_both f fd) {t : Tok} (hm : mg "MOST_ROWS" = some (.int 400 t)) (H : HTup P w K mg base) (H2 : HLeast P w K mg base) (H3 : Has P w K mg base 1 "joined" ["row", "other"] (Pu R_joined)) : FnOk P w K mg base CX0 10 f fd ["form", "other"] (Pu R_both) := by
  refine fn_pure F sc_both (fun ds d ⟨ss, n, e, _⟩ => by rw [e]; rfl) fun X T ds d C ⟨f, g, e, hf, hg, hl, e2⟩ => ?_
  subst e e2
  refine b_asgC C (e_tp (ea_cons ((e_tupled C H (Nat.le_refl _) 4 (e_var C 0 rfl) hf.okT (by decide)).is (tupD_form f)) (ea_cons ((e_tupled C H (Nat.le_refl _) 4 (e_var C 1 rfl) hg.okT (by decide)).is (tupD_form g)) ea_nil))) (tg_tup C (tgs_cons (tg_name C 2) (tgs_cons (tg_name C 3) tgs_nil))) ?_
  refine b_ifF (et_cmp ((c_gt (e_mul (e_len C B (e_var C 2 rfl) (.inl rfl)) (e_len C B (e_var C 3 rfl) (.inl rfl)) ?_) (e_glob C hm)).is ?_)) ?_
  · rw [List.length_map, List.length_map]
    have := hf.1
    exact .inl ⟨by omega, by omega⟩
  · rw [List.length_map, List.length_map, decide_eq_false_iff_not, ← Int.natCast_mul]
    omega
  · have fl := flat_len (fun r m => joinedR r m) f g
    refine b_ret (e_call C H2 (by decide) (ea_cons (e_lc2 C [("row", 4), ("more", 5)] [5] (ys := f) eRow (fun _ => g) (fun _ => eRow) (fun r m => eRow (joinedR r m)) (it_tup (e_var C 2 rfl)) (fun r hr => ⟨_, _, by decide, fun X' T' C' => ⟨tg_name C' 4, it_tup (e_var C' 3 rfl)⟩, fun m hm => ⟨_, _, by decide, fun X' T' C' => ⟨tg_name C' 5, e_call C' H3 (by decide) (ea_cons (e_var C' 4 rfl) (ea_cons (e_var C' 5 rfl) ea_nil)) ⟨r, m, rfl, (hf.2 r hr).2, (hg.2 m hm).2, rfl⟩⟩⟩⟩) ?_) ea_nil) ⟨f.flatMap fun r => g.map fun m => joinedR r m, _, rfl, .inr ?_, ?_, fun r hr => ?_, rfl⟩)
    · rw [List.length_flatMap]
      simp only [List.length_map]
      rw [List.length_flatMap] at fl
      simp only [List.length_map] at fl
      omega
    · simp only [List.map_flatMap, List.map_map]
      rfl
    · have := dd_len_le (f.flatMap fun r => g.map fun m => joinedR r m)
      omega
    · obtain ⟨a, ha, hr⟩ := List.mem_flatMap.mp hr
      obtain ⟨m, hm, rfl⟩ := List.mem_map.mp hr
      exact ⟨joined_pos (hf.2 a ha).1, by have h1 := joined_len a m; have h2 := (hf.2 a ha).2; have h3 := (hg.2 m hm).2; omega⟩
/-! ### without -/
def R_without (ds : List PyData) (d : PyData) : Prop := ∃ (f : List Row) (ss : List Spot), ds = [eForm f, .tuple (ss.map eSpot)] ∧ Fit f ∧ ss.length ≤ 100 ∧ d = eForm (withoutF f ss)
theorem ok_without {f : Addr} {fd : FuncData} (B : Bt mg) (F : Fun K "without" "without" s_without f fd) (H : HTup P w K mg base) : FnOk P w K mg base CX0 10 f fd ["form", "spots"] (Pu R_without) := by
  refine fn_pure F sc_without (fun ds d ⟨ss, n, e, _⟩ => by rw [e]; rfl) fun X T ds d C ⟨f, ss, e, hf, hl, e2⟩ => ?_
  subst e e2
  refine b_set C 2 ((e_tupled C H (Nat.le_refl _) 2 (e_var C 1 rfl) (okT_all okT_spot ss (by omega)) (by decide)).is (tupD_all tupD_spot ss)) ?_
  refine b_ret ((e_tupleL C B (e_lc C [("row", 3)] (ys := f) eRow (fun r => !(r.any fun p => ss.contains p.1)) eRow (it_tup ((e_tupled C H (Nat.le_refl _) 4 (e_var C 0 rfl) hf.okT (by decide)).is (tupD_form f))) (fun r hr => ⟨_, _, by decide, fun X' T' C' => ⟨tg_name C' 3, ets_one (et_not (et_val ((e_any (bs := r.map fun p => ss.contains p.1) C' B (E.is (e_lc C' [("spot", 4), ("_", 5)] (ys := r) ePair (fun _ => true) (fun p => .bool (ss.contains p.1)) (it_tup (e_var C' 3 rfl)) (fun p hp => ⟨_, _, by decide, fun X2 T2 C2 => ⟨tg_tup C2 (tgs_cons (tg_name C2 4) (tgs_cons (tg_name C2 5) tgs_nil)), ets_nil, fun _ => e_cmp ((c_in C2 (e_var C2 4 rfl) (e_var C2 2 rfl) (spot_Lay _) (spots_Lay _)).is (any_spot ss p.1))⟩⟩) (by have := (hf.2 r hr).2; omega)) ?_)).is ?_))), fun _ => e_var C' 3 rfl⟩⟩) (by have := hf.1; omega))).is rfl)
  · rw [made_all, List.map_map] <;> rfl
  · rw [List.any_map] <;> rfl
end
end Sk
set_option maxHeartbeats 8000000
/-! Sk05: houses; spots_of, feelers, rises, rising, some_spots, sure_out. -/
namespace Sk
open PySem PySem.Spec PyProof.Rows L2
/-! ### houses -/
abbrev Piece := Str × List Int
def ePiece (p : Piece) : PyData := .tuple (.str p.1 :: p.2.map PyData.int)
abbrev Ring := Int × List Piece
def eRing (r : Ring) : PyData := .tuple [.int r.1, .tuple (r.2.map ePiece)]
abbrev Zone := List Spot × Int
def eZone (z : Zone) : PyData := .tuple [.tuple (z.1.map eSpot), .int z.2, .none]
structure Line where
  p : Int
  any : Bool
  zs : List Nat
  wait : Int
  out : Int
  x : Int
  y : Int
def sAny : Str := "any"
def sAll : Str := "all"
def eNat (n : Nat) : PyData := .int (n : Int)
def eLine (l : Line) : PyData := .tuple [.int l.p, .str (if l.any then sAny else sAll), .tuple (l.zs.map eNat), .int l.wait, .tuple [], .int l.out, .int l.x, .int l.y]
structure House where
  rings : List Ring
  zones : List Zone
  lines : List Line
  panels : Int
def eHouse (h : House) : PyData := .tuple [.tuple (h.rings.map eRing), .tuple (h.zones.map eZone), .tuple (h.lines.map eLine), .tuple [.str "bell", .str "door"], .int h.panels]
/-- sizes -/
structure Size (h : House) : Prop where
  rings : h.rings.length ≤ 4
  pieces : ∀ r ∈ h.rings, r.2.length ≤ 20 ∧ ∀ p ∈ r.2, p.2.length ≤ 4
  words : ∀ r ∈ h.rings, ∀ p ∈ r.2, PyData.strOk p.1 = true
  zones : h.zones.length ≤ 10
  spots : ∀ z ∈ h.zones, z.1.length ≤ 3
  lines : h.lines.length ≤ 4
  asked : ∀ l ∈ h.lines, l.zs.length ≤ 2
theorem okT_piece (p : Piece) (h : p.2.length ≤ 4) : okT 1 (ePiece p) = true := by
  unfold ePiece
  simp only [okT, Bool.and_eq_true, decide_eq_true_eq, List.length_cons, List.length_map, List.all_cons, List.all_map, List.all_eq_true]
  exact ⟨by omega, trivial, fun _ _ => rfl⟩
theorem tupD_piece (p : Piece) : tupD (ePiece p) = ePiece p := by
  unfold ePiece
  rw [tupD, tupDs_map, List.map_cons, List.map_map] <;> rfl
theorem okT_ring (r : Ring) (h1 : r.2.length ≤ 20) (h2 : ∀ p ∈ r.2, p.2.length ≤ 4) : okT 3 (eRing r) = true := by
  unfold eRing
  have := okT_all' (en := ePiece) r.2 (fun p hp => okT_piece p (h2 p hp)) (by omega)
  have e : okT 3 (.tuple [.int r.1, .tuple (r.2.map ePiece)]) = (decide (2 ≤ 1000) && (okT 2 (.int r.1) && (okT 2 (.tuple (r.2.map ePiece)) && true))) := rfl
  rw [e, this] <;> rfl
theorem tupD_ring (r : Ring) : tupD (eRing r) = eRing r := by
  have e : tupD (eRing r) = .tuple [.int r.1, tupD (.tuple (r.2.map ePiece))] := rfl
  rw [e, tupD_all tupD_piece] <;> rfl
theorem okT_zone (z : Zone) (h : z.1.length ≤ 3) : okT 3 (eZone z) = true := by
  have := okT_all okT_spot z.1 (by omega)
  have e : okT 3 (eZone z) = (decide (3 ≤ 1000) && (okT 2 (.tuple (z.1.map eSpot)) && (okT 2 (.int z.2) && (okT 2 .none && true)))) := rfl
  rw [e, this] <;> rfl
theorem tupD_zone (z : Zone) : tupD (eZone z) = eZone z := by
  have e : tupD (eZone z) = .tuple [tupD (.tuple (z.1.map eSpot)), .int z.2, .none] := rfl
  rw [e, tupD_all tupD_spot] <;> rfl
theorem okT_line (l : Line) (h : l.zs.length ≤ 2) : okT 3 (eLine l) = true := by
  have := okT_all (en := eNat) (n := 1) (fun _ => rfl) l.zs (by omega)
  have e : okT 3 (eLine l) = (decide (8 ≤ 1000) && (okT 2 (.int l.p) && (okT 2 (.str (if l.any then sAny else sAll)) && (okT 2 (.tuple (l.zs.map eNat)) && (okT 2 (.int l.wait) && (okT 2 (.tuple []) && (okT 2 (.int l.out) && (okT 2 (.int l.x) && (okT 2 (.int l.y) && true))))))))) := rfl
  rw [e, this] <;> rfl
theorem tupD_line (l : Line) : tupD (eLine l) = eLine l := by
  have e : tupD (eLine l) = .tuple [.int l.p, .str (if l.any then sAny else sAll), tupD (.tuple (l.zs.map eNat)), .int l.wait, .tuple [], .int l.out, .int l.x, .int l.y] := rfl
  rw [e, tupD_all fun _ => rfl] <;> rfl
theorem okT_house (h : House) (s : Size h) : okT 5 (eHouse h) = true := by
  have h1 := okT_all' (en := eRing) h.rings (fun r hr => okT_ring r (s.pieces r hr).1 (s.pieces r hr).2) (by have := s.rings; omega)
  have h2 := okT_all' (en := eZone) h.zones (fun z hz => okT_zone z (s.spots z hz)) (by have := s.zones; omega)
  have h3 := okT_all' (en := eLine) h.lines (fun l hl => okT_line l (s.asked l hl)) (by have := s.lines; omega)
  have e : okT 5 (eHouse h) = (decide (5 ≤ 1000) && (okT 4 (.tuple (h.rings.map eRing)) && (okT 4 (.tuple (h.zones.map eZone)) && (okT 4 (.tuple (h.lines.map eLine)) && (okT 4 (.tuple [.str "bell", .str "door"]) && (okT 4 (.int h.panels) && true)))))) := rfl
  rw [e, h1, h2, h3] <;> rfl
theorem tupD_house (h : House) : tupD (eHouse h) = eHouse h := by
  have e : tupD (eHouse h) = .tuple [tupD (.tuple (h.rings.map eRing)), tupD (.tuple (h.zones.map eZone)), tupD (.tuple (h.lines.map eLine)), .tuple [.str "bell", .str "door"], .int h.panels] := rfl
  rw [e, tupD_all tupD_ring, tupD_all tupD_zone, tupD_all tupD_line] <;> rfl
/-! ### mirrors -/
def spotsIn (w : Str) (r : List Piece) (i : Nat) : List Spot := ((r.zipIdx 0).filter fun q => decide (q.1.1 = w)).map fun q => ((i : Int), (q.2 : Int))
def spotsOf (rings : List Ring) (w : Str) : List Spot := (rings.zipIdx 0).flatMap fun q => spotsIn w q.1.2 q.2
def feelersOf (h : House) : List Spot := spotsOf h.rings "feel"
theorem spotsIn_len (w : Str) (r : List Piece) (i : Nat) : (spotsIn w r i).length ≤ r.length := by
  unfold spotsIn
  rw [List.length_map]
  exact Nat.le_trans (List.length_filter_le _ _) (Nat.le_of_eq List.length_zipIdx)
section
variable {P : Program} {w : World} {K : PySem.W.Frag} {mg : Str → Option Value} {base : Heap}
theorem eqv_str (a b : Str) : PyData.eqv (.str a) (.str b) = decide (a = b) := by
  rw [Bool.eq_iff_iff, eqv_iff rfl rfl, decide_eq_true_iff, PyData.str.injEq]
theorem str_Lay (a : Str) (h : PyData.strOk a = true) : Lay (.str a) := lay_of (by simp [PyData.canLay0, h]) (by simp [PyData.depth])
def R_spots_of (ds : List PyData) (d : PyData) : Prop := ∃ (h : House) (x : Str), ds = [eHouse h, .str x] ∧ Size h ∧ PyData.strOk x = true ∧ d = .tuple ((spotsOf h.rings x).map eSpot)
theorem flat_spots {l : List Spot} : flat.flats (l.map eSpot) = true := by
  induction l with
  | nil => rfl
  | cons a l ih => rw [List.map_cons, flat.flats, ih] <;> rfl
theorem take_flat {α β : Type} (g : α → List β) (l : List α) (i : Nat) (h : i < l.length) : (l.take (i + 1)).flatMap g = (l.take i).flatMap g ++ g l[i] := flat_take g h
theorem spots_bound {rings : List Ring} (h1 : rings.length ≤ 4) (h2 : ∀ r ∈ rings, r.2.length ≤ 20) (w : Str) (i : Nat) : (((rings.zipIdx 0).take i).flatMap fun q => spotsIn w q.1.2 q.2).length ≤ 80 := by
  have key : ∀ (l : List (Ring × Nat)), (∀ q ∈ l, q.1.2.length ≤ 20) → (l.flatMap fun q => spotsIn w q.1.2 q.2).length ≤ 20 * l.length := by
    intro l
    induction l with
    | nil => intro _; simp
    | cons q l ih =>
      intro z
      rw [List.flatMap_cons, List.length_append, List.length_cons]
      have a1 := ih fun q hq => z q (List.mem_cons_of_mem _ hq)
      have a2 := spotsIn_len w q.1.2 q.2
      have a3 := z q List.mem_cons_self
      omega
  have k := key ((rings.zipIdx 0).take i) fun q hq => h2 q.1 (by
    have := List.mem_of_mem_take hq
    have := List.mem_zipIdx this
    simp at this
    rw [this.2]; exact List.getElem_mem _)
  have l : ((rings.zipIdx 0).take i).length ≤ rings.length := by
    rw [List.length_take, List.length_zipIdx]
    exact Nat.min_le_right _ _
  omega
theorem ok_spots_of {f : Addr} {fd : FuncData} (B : Bt mg) (F : Fun K "spots_of" "spots_of" s_spots_of f fd) (H : HTup P w K mg base) : FnOk P w K mg base CX0 10 f fd ["house", "word"] (Pu R_spots_of) := by
  refine fn_pure F sc_spots_of (fun ds d ⟨ss, n, e, _⟩ => by rw [e]; rfl) fun X T ds d C ⟨h, x, e, s, xo, e2⟩ => ?_
  subst e e2
  refine b_set C 2 (e_ix (j := 0) ((e_tupled C H (Nat.le_refl _) 5 (e_var C 0 rfl) (okT_house h s) (by decide)).is (tupD_house h)) e_int rfl rfl) ?_
  refine bo_of (w_new C 3 (Φo := fun o os1 => o = .lst [] ∧ os1 = []) (xf_disp (xa_nil ⟨by decide, rfl, rfl⟩)) fun a o os1 ⟨e1, e2⟩ => ?_)
  subst e1 e2
  have lz : (h.rings.zipIdx 0).length = h.rings.length := List.length_zipIdx
  refine w_for C (ΦA := fun xs os1 => xs = (h.rings.zipIdx 0).map (fun q => .tuple [.int (q.2 : Int), eRing q.1]) ∧ os1 = [.lst []]) (fun xs i ρi osi => xs = (h.rings.zipIdx 0).map (fun q => .tuple [.int (q.2 : Int), eRing q.1]) ∧ (∃ u v y, ρi = [some (eHouse h), some (.str x), some (.tuple (h.rings.map eRing)), none, u, v, y, none, none]) ∧ osi = [.lst ((((h.rings.zipIdx 0).take i).flatMap fun q => spotsIn x q.1.2 q.2).map eSpot)]) (i_of (it_enumT C B (e_var C 2 rfl)) ⟨numbered_zip eRing 0 h.rings, rfl⟩) (fun xs os1 ⟨e1, e2⟩ => ⟨e1, ⟨none, none, none, rfl⟩, by rw [e2, List.take_zero] <;> rfl⟩) (fun xs i hlt ρi osi ⟨e1, ⟨u, v, y, e2⟩, e3⟩ => ?_) fun xs ρe ose ⟨e1, ⟨u, v, y, e2⟩, e3⟩ => ?_
  · subst e1 e2 e3
    have hi : i < (h.rings.zipIdx 0).length := by simpa using hlt
    rw [List.getElem_map]
    generalize hq : (h.rings.zipIdx 0)[i] = q
    have hm : q.1 ∈ h.rings := by
      have : q ∈ h.rings.zipIdx 0 := by rw [← hq]; exact List.getElem_mem hi
      have := List.mem_zipIdx this
      simp at this
      rw [this.2]; exact List.getElem_mem _
    have pl := (s.pieces q.1 hm).1
    have sb := spots_bound s.rings (fun r hr => (s.pieces r hr).1) x i
    refine ⟨_, _, tg_tup C (tgs_cons (tg_name C 4) (tgs_cons (tg_tup C (tgs_cons (tg_name C 5) (tgs_cons (tg_name C 6) tgs_nil))) tgs_nil)), rfl, ?_⟩
    refine w_extend C 0 rfl rfl (x_of (d := .list ((spotsIn x q.1.2 q.2).map eSpot)) ((e_lc C [("number", 7), ("piece", 8)] (ys := q.1.2.zipIdx 0) (fun r => .tuple [.int (r.2 : Int), ePiece r.1]) (fun r => decide (r.1.1 = x)) (fun r => eSpot ((q.2 : Int), (r.2 : Int))) (by rw [← numbered_zip]; exact it_enumT C B (e_var C 6 rfl)) (fun r hr => ⟨_, _, by decide, fun X' T' C' => ⟨tg_tup C' (tgs_cons (tg_name C' 7) (tgs_cons (tg_name C' 8) tgs_nil)), ets_one (et_cmp ((c_eq C' (e_ix (j := 0) (e_var C' 8 rfl) e_int rfl rfl) (e_var C' 1 rfl) (str_Lay _ (s.words q.1 hm r.1 (by
      have := List.mem_zipIdx hr
      simp at this
      rw [this.2]; exact List.getElem_mem _))) (str_Lay _ xo)).is (eqv_str _ _))), fun _ => e_tp (ea_cons (e_var C' 4 rfl) (ea_cons (e_var C' 7 rfl) ea_nil))⟩⟩) (by rw [List.length_zipIdx]; omega)).is ?_) ⟨_, _, rfl, rfl, ?_, w_nil ⟨rfl, ⟨_, _, _, rfl⟩, ?_⟩⟩)
    · unfold made spotsIn
      rw [List.map_map] <;> rfl
    · rw [List.length_map, List.length_map]
      have := spotsIn_len x q.1.2 q.2
      omega
    · rw [flat_take _ hi, hq, List.map_append] <;> rfl
  · subst e1 e2 e3
    rw [List.length_map, List.take_length]
    exact w_retF (e_tupleL C B (e_var C 3 rfl)) rfl
def R_feelers (ds : List PyData) (d : PyData) : Prop := ∃ (h : House), ds = [eHouse h] ∧ Size h ∧ d = .tuple ((feelersOf h).map eSpot)
theorem ok_feelers {f : Addr} {fd : FuncData} (F : Fun K "feelers" "feelers" s_feelers f fd) (H : Has P w K mg base 10 "spots_of" ["house", "word"] (Pu R_spots_of)) : FnOk P w K mg base CX0 11 f fd ["house"] (Pu R_feelers) := by
  refine fn_pure F sc_feelers (fun ds d ⟨ss, e, _⟩ => by rw [e]; rfl) fun X T ds d C ⟨h, e, s, e2⟩ => ?_
  subst e e2
  exact b_ret (e_call C H (Nat.le_refl _) (ea_cons (e_var C 0 rfl) (ea_cons e_str ea_nil)) ⟨h, _, rfl, s, by decide +kernel, rfl⟩)
end
end Sk
set_option maxHeartbeats 8000000
/-! Sk06: rising, sure_out, the forms of zones, lines, outs; hangs_on. -/
namespace Sk
open PySem PySem.Spec PyProof.Rows L2
/-! ### mirrors -/
def zoneF (z : Zone) (lost : List Spot) : List Row := withoutF (knockForm z.1 z.2) lost
def zoneAt (h : House) (n : Nat) : List Row := match h.zones[n]? with
  | some z => zoneF z []
  | none => []
def lineForm (h : House) (l : Line) : List Row := match l.zs.map (zoneAt h) with
  | [] => []
  | f :: fs => afterF (fs.foldl (fun a b => if l.any then eitherF a b else bothF a b) f) l.wait
def outForm (h : House) (k : Int) : List Row := h.lines.foldl (fun acc l => if l.out = k then eitherF acc (lineForm h l) else acc) []
def hangsOn (h : House) (k : Int) (s : Spot) : Str :=
  if withoutF (outForm h k) [s] = outForm h k then "never" else if withoutF (outForm h k) [s] = [] then "always" else "some"
/-! ### sizes of forms -/
/-- at most n rows of at most m pairs, none empty -/
def FitN (n m : Nat) (f : List Row) : Prop := f.length ≤ n ∧ ∀ r ∈ f, r ≠ [] ∧ r.length ≤ m
theorem FitN.fit {n m : Nat} {f : List Row} (h : FitN n m f) (hn : n ≤ 400) (hm : m ≤ 100) : Fit f := ⟨Nat.le_trans h.1 hn, fun r hr => ⟨(h.2 r hr).1, Nat.le_trans (h.2 r hr).2 hm⟩⟩
theorem FitN.wide {n m n' m' : Nat} {f : List Row} (h : FitN n m f) (hn : n ≤ n') (hm : m ≤ m') : FitN n' m' f := ⟨Nat.le_trans h.1 hn, fun r hr => ⟨(h.2 r hr).1, Nat.le_trans (h.2 r hr).2 hm⟩⟩
theorem least_sub {f : List Row} {r : Row} (h : r ∈ leastOf f) : r ∈ f := mem_setOf.mp (List.mem_filter.mp h).1
theorem least_len (f : List Row) : (leastOf f).length ≤ f.length := by
  unfold leastOf
  refine Nat.le_trans (List.length_filter_le _ _) ?_
  rw [setOf_len]
  exact dd_len_le f
theorem FitN.either {n m a b : Nat} {f g : List Row} (h : FitN n m f) (k : FitN a b g) : FitN (n + a) (max m b) (eitherF f g) := by
  refine ⟨Nat.le_trans (least_len _) (by rw [List.length_append]; have := h.1; have := k.1; omega), fun r hr => ?_⟩
  rcases List.mem_append.mp (least_sub hr) with q | q
  · exact ⟨(h.2 r q).1, by have := (h.2 r q).2; omega⟩
  · exact ⟨(k.2 r q).1, by have := (k.2 r q).2; omega⟩
theorem FitN.both {n m a b : Nat} {f g : List Row} (h : FitN n m f) (k : FitN a b g) : FitN (n * a) (m + b) (bothF f g) := by
  refine ⟨Nat.le_trans (least_len _) (by rw [flat_len]; exact Nat.mul_le_mul h.1 k.1), fun r hr => ?_⟩
  obtain ⟨x, hx, q⟩ := List.mem_flatMap.mp (least_sub hr)
  obtain ⟨y, hy, rfl⟩ := List.mem_map.mp q
  have h1 := joined_len x y
  have h2 := (h.2 x hx).2
  have h3 := (k.2 y hy).2
  exact ⟨joined_pos (h.2 x hx).1, by omega⟩
theorem FitN.after {n m : Nat} {f : List Row} (h : FitN n m f) (w : Int) : FitN n m (afterF f w) := by
  refine ⟨by rw [afterF, List.length_map]; exact h.1, fun r hr => ?_⟩
  obtain ⟨x, hx, rfl⟩ := List.mem_map.mp hr
  exact ⟨fun z => (h.2 x hx).1 (List.map_eq_nil_iff.mp z), by rw [List.length_map]; exact (h.2 x hx).2⟩
theorem FitN.without {n m : Nat} {f : List Row} (h : FitN n m f) (ss : List Spot) : FitN n m (withoutF f ss) :=
  ⟨Nat.le_trans (List.length_filter_le _ _) h.1, fun r hr => h.2 r (List.mem_filter.mp hr).1⟩
theorem pairs3 (ss : List Spot) (h : ss.length ≤ 3) : (pairsOf ss).length ≤ 3 := by
  unfold pairsOf
  match ss, h with
  | [], _ => decide
  | [a], _ => simp
  | [a, b], _ => simp
  | [a, b, c], _ => simp
  | _ :: _ :: _ :: _ :: _, h => simp at h
theorem knock_fit (ss : List Spot) (n : Int) (h : ss.length ≤ 3) : FitN 3 2 (knockForm ss n) := by
  unfold knockForm
  split
  · refine ⟨by rw [List.length_map]; exact h, fun r hr => ?_⟩
    obtain ⟨x, hx, rfl⟩ := List.mem_map.mp hr
    exact ⟨by simp, by simp⟩
  · refine ⟨by rw [setOf_len]; exact Nat.le_trans (dd_len_le _) (pairs3 ss h), fun r hr => ?_⟩
    have hr := mem_setOf.mp hr
    unfold pairsOf at hr
    obtain ⟨y, _, hr⟩ := List.mem_flatMap.mp hr
    obtain ⟨z, _, rfl⟩ := List.mem_map.mp hr
    exact ⟨by simp, by simp⟩
theorem zone_fit {h : House} (s : Size h) (n : Nat) : FitN 3 2 (zoneAt h n) := by
  unfold zoneAt
  cases e : h.zones[n]? with
  | none => exact ⟨by simp, fun r hr => by simp at hr⟩
  | some z => exact (knock_fit z.1 z.2 (s.spots z (List.mem_of_getElem? e))).without []
theorem line_fit {h : House} (s : Size h) {l : Line} (hl : l ∈ h.lines) : FitN 9 4 (lineForm h l) := by
  have h2 := s.asked l hl
  unfold lineForm
  match hz : l.zs, h2 with
  | [], _ => exact ⟨by simp, fun r hr => by simp at hr⟩
  | [a], _ => exact ((zone_fit s a).after l.wait).wide (by decide) (by decide)
  | [a, b], _ =>
    show FitN 9 4 (afterF (if l.any = true then eitherF (zoneAt h a) (zoneAt h b) else bothF (zoneAt h a) (zoneAt h b)) l.wait)
    split
    · exact (((zone_fit s a).either (zone_fit s b)).after l.wait).wide (by decide) (by decide)
    · exact (((zone_fit s a).both (zone_fit s b)).after l.wait).wide (by decide) (by decide)
  | _ :: _ :: _ :: _, h2 => simp at h2
theorem out_fit {h : House} (s : Size h) (k : Int) : ∀ (ls : List Line), (∀ l ∈ ls, l ∈ h.lines) → ∀ acc, ∀ n, FitN n 4 acc → FitN (n + 9 * ls.length) 4 (ls.foldl (fun acc l => if l.out = k then eitherF acc (lineForm h l) else acc) acc)
  | [], _, acc, n, f => f
  | l :: ls, hl, acc, n, f => by
    rw [List.foldl_cons, List.length_cons]
    have lf := line_fit s (hl l List.mem_cons_self)
    have ih := fun acc n f => out_fit s k ls (fun x hx => hl x (List.mem_cons_of_mem _ hx)) acc n f
    split
    · exact (ih _ _ (f.either lf)).wide (by omega) (by omega)
    · exact (ih _ _ f).wide (by omega) (by omega)
section
variable {P : Program} {w : World} {K : PySem.W.Frag} {mg : Str → Option Value} {base : Heap}
/-! ### rises, rising -/
def R_rises (ds : List PyData) (d : PyData) : Prop := ∃ (h : House), ds = [eHouse h] ∧ Size h ∧ d = .bool true
theorem all_true {α : Type} (l : List α) : (l.map fun _ => true).all id = true := by simp
theorem ok_rises {f : Addr} {fd : FuncData} (B : Bt mg) (F : Fun K "rises" "rises" s_rises f fd) (H : HTup P w K mg base) : FnOk P w K mg base CX0 10 f fd ["house"] (Pu R_rises) := by
  refine fn_pure F sc_rises (fun ds d ⟨ss, e, _⟩ => by rw [e]; rfl) fun X T ds d C ⟨h, e, s, e2⟩ => ?_
  subst e e2
  refine b_set C 1 ((e_tupled C H (Nat.le_refl _) 5 (e_var C 0 rfl) (okT_house h s) (by decide)).is (tupD_house h)) (b_ret ((e_and (x := true) (y := true) ((e_all (bs := h.zones.map fun _ => true) C B (E.is (e_lc C [("zone", 2)] (ys := h.zones) eZone (fun _ => true) (fun _ => .bool true) (it_tup (e_ix (j := 1) (e_var C 1 rfl) e_int rfl rfl)) (fun z hz => ⟨_, _, by decide, fun X' T' C' => ⟨tg_name C' 2, ets_nil, fun _ => (e_cmp (c_isN (e_ix (j := 2) (e_var C' 2 rfl) e_int rfl rfl))).is rfl⟩⟩) (by have := s.zones; omega)) ?_)).is ?_) fun _ => e_one ((e_all (bs := h.lines.map fun _ => true) C B (E.is (e_lc C [("line", 3)] (ys := h.lines) eLine (fun _ => true) (fun _ => .bool true) (it_tup (e_ix (j := 2) (e_var C 1 rfl) e_int rfl rfl)) (fun z hz => ⟨_, _, by decide, fun X' T' C' => ⟨tg_name C' 3, ets_nil, fun _ => (e_cmp (c_eq C' (e_ix (j := 4) (e_var C' 3 rfl) e_int rfl rfl) (e_tp ea_nil) (spots_Lay []) (spots_Lay []))).is rfl⟩⟩) (by have := s.lines; omega)) ?_)).is ?_)).is rfl))
  · rw [made_all, List.map_map] <;> rfl
  · rw [all_true]
  · rw [made_all, List.map_map] <;> rfl
  · rw [all_true]
def R_rising (ds : List PyData) (d : PyData) : Prop := ∃ (h : House) (x : PyData), ds = [x] ∧ okT 8 x = true ∧ tupD x = eHouse h ∧ Size h ∧ d = eHouse h
theorem ok_rising {f : Addr} {fd : FuncData} (B : Bt mg) (F : Fun K "rising" "rising" s_rising f fd) (H : HTup P w K mg base) (H2 : Has P w K mg base 10 "rises" ["house"] (Pu R_rises)) : FnOk P w K mg base CX0 11 f fd ["house"] (Pu R_rising) := by
  refine fn_pure F sc_rising (fun ds d ⟨ss, x, e, _⟩ => by rw [e]; rfl) fun X T ds d C ⟨h, x, e, ho, ht, s, e2⟩ => ?_
  subst e e2
  exact b_set C 1 ((e_tupled C H (by decide) 8 (e_var C 0 rfl) ho (by decide)).is ht) (b_ifF ((et_not (et_val (e_call C H2 (Nat.le_refl _) (ea_cons (e_var C 1 rfl) ea_nil) ⟨h, rfl, s, rfl⟩))).is rfl) (b_ret (e_var C 1 rfl)))
/-! ### some_spots, sure_out -/
def R_some (ds : List PyData) (d : PyData) : Prop := ∃ (h : House) (s : Spot) (x : PyData), ds = [eHouse h, .tuple [x]] ∧ okT 7 x = true ∧ tupD x = eSpot s ∧ Size h ∧ s ∈ feelersOf h ∧ d = .tuple [eSpot s]
theorem feelers_len {h : House} (s : Size h) : (feelersOf h).length ≤ 80 := by
  have := spots_bound s.rings (fun r hr => (s.pieces r hr).1) "feel" (h.rings.zipIdx 0).length
  rw [List.take_length] at this
  exact this
theorem contains_of {l : List Spot} {s : Spot} (h : s ∈ l) : l.contains s = true := by simpa using h
theorem ok_some_spots {f : Addr} {fd : FuncData} (B : Bt mg) (F : Fun K "some_spots" "some_spots" s_some_spots f fd) (H : HTup P w K mg base) (H2 : Has P w K mg base 11 "feelers" ["house"] (Pu R_feelers)) : FnOk P w K mg base CX0 12 f fd ["house", "spots"] (Pu R_some) := by
  refine fn_pure F sc_some_spots (fun ds d ⟨ss, y, x, e, _⟩ => by rw [e]; rfl) fun X T ds d C ⟨h, y, x, e, ho, ht, s, hm, e2⟩ => ?_
  subst e e2
  have o1 : okT 8 (.tuple [x]) = true := by
    have e : okT 8 (.tuple [x]) = (decide (1 ≤ 1000) && (okT 7 x && true)) := rfl
    rw [e, ho] <;> rfl
  refine b_par C 2 3 ((e_tupled C H (by decide) 8 (e_var C 1 rfl) o1 (by decide)).is (show tupD (.tuple [x]) = .tuple ([y].map eSpot) from by rw [tupD, tupD.tupDs, ht] <;> rfl)) (e_call C H2 (Nat.le_refl _) (ea_cons (e_var C 0 rfl) ea_nil) ⟨h, rfl, s, rfl⟩) ?_
  refine b_for C (ys := [y]) eSpot (fun i => if i = 0 then [some (eHouse h), some (.tuple [x]), some (.tuple ([y].map eSpot)), some (.tuple ((feelersOf h).map eSpot)), none] else [some (eHouse h), some (.tuple [x]), some (.tuple ([y].map eSpot)), some (.tuple ((feelersOf h).map eSpot)), some (eSpot y)]) (it_tup (e_var C 2 rfl)) rfl (fun i hi => ?_) ?_
  · have e : i = 0 := by simp at hi; omega
    subst e
    exact ⟨_, _, tg_name C 4, b_ifF (et_cmp ((c_notIn C (e_var C 4 rfl) (e_var C 3 rfl) (spot_Lay _) (spots_Lay _)).is (by show (!(((feelersOf h).map eSpot).any fun z => PyData.eqv z (eSpot y))) = false; rw [any_spot, contains_of hm] <;> rfl))) b_nil⟩
  · exact b_ret (e_var C 2 rfl)
def R_sure (ds : List PyData) (d : PyData) : Prop := ∃ (h : House) (k : Int), ds = [eHouse h, .int k] ∧ 0 ≤ k ∧ k < 2 ∧ d = .none
theorem ok_sure_out {f : Addr} {fd : FuncData} (B : Bt mg) (F : Fun K "sure_out" "sure_out" s_sure_out f fd) {t : Tok} (hm : mg "OUTS" = some (.int 3 t)) : FnOk P w K mg base CX0 1 f fd ["house", "out"] (Pu R_sure) := by
  refine fn_pureN F sc_sure_out (fun ds d ⟨h, k, e, _⟩ => by rw [e]; rfl) (fun ds d ⟨h, k, e, _, _, e2⟩ => e2) fun X T ds d C ⟨h, k, e, h1, h2, e2⟩ => ?_
  subst e e2
  refine ⟨_, b_ifF ((et_not (et_chain (l := 2) e_int (e_var C 1 rfl) ((e_len C B (e_ix (j := 3) (e_var C 0 rfl) (e_glob C hm) rfl rfl) (.inl rfl)).is rfl))).is ?_) b_nil⟩
  rw [decide_eq_true h1, decide_eq_true h2] <;> rfl
/-! ### form_of_zone, form_of_line, form_of_out -/
def R_fzone (ds : List PyData) (d : PyData) : Prop := ∃ (h : House) (n : Nat), ds = [eHouse h, eNat n, .tuple []] ∧ Size h ∧ n < h.zones.length ∧ d = eForm (zoneAt h n)
theorem ok_form_of_zone {f : Addr} {fd : FuncData} (F : Fun K "form_of_zone" "form_of_zone" s_form_of_zone f fd) {t : Tok} (hm : mg "ZONES" = some (.int 1 t)) (H : Has P w K mg base 10 "knock_form" ["spots", "number"] (Pu R_knock)) (H2 : Has P w K mg base 10 "without" ["form", "spots"] (Pu R_without)) :
    FnOk P w K mg base CX0 11 f fd ["house", "number", "lost"] (Pu R_fzone) := by
  refine fn_pure F sc_form_of_zone (fun ds d ⟨h, n, e, _⟩ => by rw [e]; rfl) fun X T ds d C ⟨h, n, e, s, hn, e2⟩ => ?_
  subst e e2
  have hz : h.zones[n]? = some h.zones[n] := List.getElem?_eq_getElem hn
  have hz' : (h.zones.map eZone)[n]? = some (eZone h.zones[n]) := by rw [List.getElem?_map, hz] <;> rfl
  have sp := s.spots _ (List.getElem_mem hn)
  have ez : zoneAt h n = zoneF h.zones[n] [] := by unfold zoneAt; rw [hz]
  rw [ez]
  exact b_asgC C (e_ix (j := n) (e_ix (j := 1) (e_var C 0 rfl) (e_glob C hm) rfl rfl) (e_var C 1 rfl) rfl hz') (tg_tup C (tgs_cons (tg_name C 3) (tgs_cons (tg_name C 4) (tgs_cons (tg_name C 5) tgs_nil)))) (b_ret (e_call C H2 (Nat.le_refl _) (ea_cons (e_call C H (Nat.le_refl _) (ea_cons (e_var C 3 rfl) (ea_cons (e_var C 4 rfl) ea_nil)) ⟨_, _, rfl, by omega, rfl⟩) (ea_cons (e_var C 2 rfl) ea_nil)) ⟨_, [], rfl, (knock_fit _ _ sp).fit (by decide) (by decide), by decide, rfl⟩))
/-- a line as the house bears it -/
structure LineOk (h : House) (l : Line) : Prop where
  mem : l ∈ h.lines
  zs : ∀ z ∈ l.zs, z < h.zones.length
  ne : l.zs ≠ []
def R_fline (ds : List PyData) (d : PyData) : Prop := ∃ (h : House) (l : Line), ds = [eHouse h, eLine l, .tuple []] ∧ Size h ∧ LineOk h l ∧ d = eForm (lineForm h l)
theorem eqv_any (b : Bool) : PyData.eqv (.str (if b then sAny else sAll)) (.str "any") = b := by cases b <;> decide +kernel
theorem any_Lay (b : Bool) : Lay (.str (if b then sAny else sAll)) := by cases b <;> exact str_Lay _ (by decide +kernel)
theorem ok_form_of_line {f : Addr} {fd : FuncData} (F : Fun K "form_of_line" "form_of_line" s_form_of_line f fd) {t t1 t2 : Tok} (hm : mg "ASKED" = some (.int 2 t)) (hm1 : mg "WHEN" = some (.int 1 t1)) (hm2 : mg "WAIT" = some (.int 3 t2)) (H : Has P w K mg base 11 "form_of_zone" ["house", "number", "lost"] (Pu R_fzone))
    (H1 : Has P w K mg base 10 "either" ["form", "other"] (Pu R_either)) (H2 : Has P w K mg base 10 "both" ["form", "other"] (Pu R_both)) (H3 : Has P w K mg base 10 "after" ["form", "plus"] (Pu R_after)) : FnOk P w K mg base CX0 12 f fd ["house", "line", "lost"] (Pu R_fline) := by
  refine fn_pure F sc_form_of_line (fun ds d ⟨h, n, e, _⟩ => by rw [e]; rfl) fun X T ds d C ⟨h, l, e, s, ok, e2⟩ => ?_
  subst e e2
  have l2 := s.asked l ok.mem
  refine b_lc C 3 [("number", 6)] (ys := l.zs) eNat (fun _ => true) (fun z => eForm (zoneAt h z)) (it_tup (e_ix (j := 2) (e_var C 1 rfl) (e_glob C hm) rfl rfl)) (fun z hz => ⟨_, _, by decide, fun X' T' C' => ⟨tg_name C' 6, ets_nil, fun _ => e_call C' H (Nat.le_refl _) (ea_cons (e_var C' 0 rfl) (ea_cons (e_var C' 6 rfl) (ea_cons (e_var C' 2 rfl) ea_nil))) ⟨h, z, rfl, s, ok.zs z hz, rfl⟩⟩⟩) (by omega) ?_
  unfold lineForm
  match hz : l.zs, l2, ok.ne with
  | [], _, n => exact absurd rfl n
  | [a], _, _ =>
    refine b_set C 4 (e_ixL (j := 0) (e_var C 3 rfl) e_int rfl rfl) (b_for C (ys := ([] : List Nat)) eNat (fun _ => _) (it_list ((e_slL (e_var C 3 rfl) (eo_some (n := 1) (e_int.is rfl)) eo_none).is rfl)) rfl (fun i hi => absurd hi (by simp)) (b_ret (e_call C H3 (by decide) (ea_cons (e_var C 4 rfl) (ea_cons (e_ix (j := 3) (e_var C 1 rfl) (e_glob C hm2) rfl rfl) ea_nil)) ⟨_, _, rfl, (zone_fit s a).fit (by decide) (by decide), rfl⟩)))
  | [a, b], _, _ =>
    have fa := zone_fit s a
    have fb := zone_fit s b
    have fit : Fit (if l.any = true then eitherF (zoneAt h a) (zoneAt h b) else bothF (zoneAt h a) (zoneAt h b)) := by
      split
      · exact (fa.either fb).fit (by decide) (by decide)
      · exact (fa.both fb).fit (by decide) (by decide)
    refine b_set C 4 (e_ixL (j := 0) (e_var C 3 rfl) e_int rfl rfl) (b_for C (ys := [b]) (fun z => eForm (zoneAt h z)) (fun i => [some (eHouse h), some (eLine l), some (.tuple []), some (.list [eForm (zoneAt h a), eForm (zoneAt h b)]), if i = 0 then some (eForm (zoneAt h a)) else some (eForm (if l.any = true then eitherF (zoneAt h a) (zoneAt h b) else bothF (zoneAt h a) (zoneAt h b))), if i = 0 then none else some (eForm (zoneAt h b)), none]) (it_list ((e_slL (e_var C 3 rfl) (eo_some (n := 1) (e_int.is rfl)) eo_none).is rfl)) rfl (fun i hi => ?_) (b_ret (e_call C H3 (by decide) (ea_cons (e_var C 4 rfl) (ea_cons (e_ix (j := 3) (e_var C 1 rfl) (e_glob C hm2) rfl rfl) ea_nil)) ⟨_, _, rfl, fit, rfl⟩)))
    have e0 : i = 0 := by simp at hi; omega
    subst e0
    refine ⟨_, _, tg_name C 5, b_set C 4 (e_if (x := l.any) (et_cmp ((c_eq C (e_ix (j := 1) (e_var C 1 rfl) (e_glob C hm1) rfl rfl) e_str (any_Lay _) (str_Lay _ (by decide +kernel))).is (eqv_any _))) (fun hx => (e_call C H1 (by decide) (ea_cons (e_var C 4 rfl) (ea_cons (e_var C 5 rfl) ea_nil)) ⟨_, _, rfl, fa.fit (by decide) (by decide), fb.fit (by decide) (by decide), by have := fa.1; have := fb.1; show (zoneAt h a).length + (zoneAt h b).length < 64; omega, rfl⟩).is ?_) fun hx => (e_call C H2 (by decide) (ea_cons (e_var C 4 rfl) (ea_cons (e_var C 5 rfl) ea_nil)) ⟨_, _, rfl, fa.fit (by decide) (by decide), fb.fit (by decide) (by decide), Nat.lt_of_le_of_lt (Nat.mul_le_mul fa.1 fb.1) (by decide), rfl⟩).is ?_) b_nil⟩
    · show _ = eForm (if l.any = true then eitherF (zoneAt h a) (zoneAt h b) else bothF (zoneAt h a) (zoneAt h b))
      rw [if_pos hx] <;> rfl
    · show _ = eForm (if l.any = true then eitherF (zoneAt h a) (zoneAt h b) else bothF (zoneAt h a) (zoneAt h b))
      rw [hx, if_neg Bool.false_ne_true] <;> rfl
  | _ :: _ :: _ :: _, l2, _ => simp at l2
structure Lines (h : House) : Prop where
  ok : ∀ l ∈ h.lines, LineOk h l
def R_fout (ds : List PyData) (d : PyData) : Prop := ∃ (h : House) (k : Int), ds = [eHouse h, .tuple (h.lines.map eLine), .int k, .tuple []] ∧ Size h ∧ Lines h ∧ d = eForm (outForm h k)
def outStep (h : House) (k : Int) (acc : List Row) (l : Line) : List Row := if l.out = k then eitherF acc (lineForm h l) else acc
theorem ok_form_of_out {f : Addr} {fd : FuncData} (F : Fun K "form_of_out" "form_of_out" s_form_of_out f fd) {t : Tok} (hm : mg "OUT" = some (.int 5 t)) (H : Has P w K mg base 12 "form_of_line" ["house", "line", "lost"] (Pu R_fline)) (H1 : Has P w K mg base 10 "either" ["form", "other"] (Pu R_either)) : FnOk P w K mg base CX0 13 f fd ["house", "lines", "out", "lost"] (Pu R_fout) := by
  refine fn_pure F sc_form_of_out (fun ds d ⟨h, n, e, _⟩ => by rw [e]; rfl) fun X T ds d C ⟨h, k, e, s, ok, e2⟩ => ?_
  subst e e2
  have sl := s.lines
  refine b_set C 4 (e_tp ea_nil) (b_for C (ys := h.lines) eLine (fun i => [some (eHouse h), some (.tuple (h.lines.map eLine)), some (.int k), some (.tuple []), some (eForm ((h.lines.take i).foldl (outStep h k) [])), match i with | 0 => none | i + 1 => (h.lines[i]?).map eLine]) (it_tup (e_var C 1 rfl)) (by show [_, _, _, _, some (eForm ((h.lines.take 0).foldl (outStep h k) [])), none] = _; rw [List.take_zero] <;> rfl) (fun i hi => ?_) (b_ret ((e_var C 4 rfl).is (by rw [List.take_length] <;> rfl))))
  have lm : h.lines[i] ∈ h.lines := List.getElem_mem hi
  have ft := out_fit s k (h.lines.take i) (fun l hl => List.mem_of_mem_take hl) [] 0 ⟨by simp, fun r hr => by simp at hr⟩
  have tl : (h.lines.take i).length ≤ i := by rw [List.length_take]; exact Nat.min_le_left _ _
  have lf := line_fit s lm
  have e1 : (h.lines.take (i + 1)).foldl (outStep h k) [] = outStep h k ((h.lines.take i).foldl (outStep h k) []) h.lines[i] := by
    rw [take_snoc (List.getElem?_eq_getElem hi), List.foldl_append] <;> rfl
  refine ⟨_, _, tg_name C 5, b_if (ρ1 := [some (eHouse h), some (.tuple (h.lines.map eLine)), some (.int k), some (.tuple []), some (eForm ((h.lines.take (i + 1)).foldl (outStep h k) [])), (h.lines[i]?).map eLine]) (et_cmp (c_eqI (e_ix (j := 5) (e_var C 5 rfl) (e_glob C hm) rfl rfl) (e_var C 2 rfl))) ?_ b_nil⟩
  rw [e1, List.getElem?_eq_getElem hi]
  unfold outStep
  by_cases hk : h.lines[i].out = k
  · rw [decide_eq_true hk, if_pos rfl, if_pos hk]
    exact b_set C 4 (e_call C H1 (by decide) (ea_cons (e_var C 4 rfl) (ea_cons (e_call C H (Nat.le_refl _) (ea_cons (e_var C 0 rfl) (ea_cons (e_var C 5 rfl) (ea_cons (e_var C 3 rfl) ea_nil))) ⟨h, h.lines[i], rfl, s, ok.ok _ lm, rfl⟩) ea_nil)) ⟨_, _, rfl, ft.fit (by omega) (by decide), lf.fit (by decide) (by decide), by have := ft.1; have := lf.1; show ((h.lines.take i).foldl (outStep h k) []).length + (lineForm h h.lines[i]).length < 64; unfold outStep; omega, rfl⟩) b_nil
  · rw [decide_eq_false hk, if_neg Bool.false_ne_true, if_neg hk]
    exact b_nil
/-! ### hangs_on -/
def R_hangs (ds : List PyData) (d : PyData) : Prop := ∃ (h : House) (k : Int) (s : Spot) (x y : PyData), ds = [x, .int k, y] ∧ okT 8 x = true ∧ tupD x = eHouse h ∧ okT 7 y = true ∧ tupD y = eSpot s ∧ Size h ∧ Lines h ∧ 0 ≤ k ∧ k < 2 ∧ s ∈ feelersOf h ∧ d = .str (hangsOn h k s)
theorem ok_hangs_on {f : Addr} {fd : FuncData} (F : Fun K "hangs_on" "hangs_on" s_hangs_on f fd) {t : Tok} (hm : mg "LINES" = some (.int 2 t)) (H1 : Has P w K mg base 11 "rising" ["house"] (Pu R_rising)) (H2 : Has P w K mg base 1 "sure_out" ["house", "out"] (Pu R_sure)) (H3 : Has P w K mg base 12 "some_spots" ["house", "spots"] (Pu R_some))
    (H4 : Has P w K mg base 13 "form_of_out" ["house", "lines", "out", "lost"] (Pu R_fout)) (H5 : Has P w K mg base 10 "without" ["form", "spots"] (Pu R_without)) : FnOk P w K mg base CX0 14 f fd ["house", "out", "spot"] (Pu R_hangs) := by
  refine fn_pure F sc_hangs_on (fun ds d ⟨h, k, s, x, y, e, _⟩ => by rw [e]; rfl) fun X T ds d C ⟨h, k, s, x, y, e, ho, ht, ho2, ht2, sz, ok, k0, k2, hs, e2⟩ => ?_
  subst e e2
  have ft := out_fit sz k h.lines (fun l hl => hl) [] 0 ⟨by simp, fun r hr => by simp at hr⟩
  have sl := sz.lines
  have fit : Fit (outForm h k) := ft.fit (by omega) (by decide)
  refine b_set C 3 (e_call C H1 (by decide) (ea_cons (e_var C 0 rfl) ea_nil) ⟨h, x, rfl, ho, ht, sz, rfl⟩) (b_expr (e_call C H2 (by decide) (ea_cons (e_var C 3 rfl) (ea_cons (e_var C 1 rfl) ea_nil)) ⟨h, k, rfl, k0, k2, rfl⟩) (b_set C 4 (e_ix (j := 0) (e_call C H3 (by decide) (ea_cons (e_var C 3 rfl) (ea_cons (e_tp (ea_cons (e_var C 2 rfl) ea_nil)) ea_nil)) ⟨h, s, y, rfl, ho2, ht2, sz, hs, rfl⟩) e_int rfl rfl)
    (b_set C 5 (e_call C H4 (Nat.le_refl _) (ea_cons (e_var C 3 rfl) (ea_cons (e_ix (j := 2) (e_var C 3 rfl) (e_glob C hm) rfl rfl) (ea_cons (e_var C 1 rfl) (ea_cons (e_tp ea_nil) ea_nil)))) ⟨h, k, rfl, sz, ok, rfl⟩) (b_set C 6 (e_call C H5 (by decide) (ea_cons (e_var C 5 rfl) (ea_cons (e_tp (ea_cons (e_var C 4 rfl) ea_nil)) ea_nil)) ⟨outForm h k, [s], rfl, fit, Nat.le_of_ble_eq_true rfl, rfl⟩)
      (b_ifC (et_cmp ((c_eq C (e_var C 6 rfl) (e_var C 5 rfl) (form_Lay _) (form_Lay _)).is (form_eqv _ _))) (fun hx => b_ret (e_str.is ?_)) fun hx => b_ret ?_)))))
  · unfold hangsOn
    rw [if_pos (of_decide_eq_true hx)]
  · unfold hangsOn
    rw [if_neg (of_decide_eq_false hx)]
    refine e_if (et_cmp ((c_eq C (e_var C 6 rfl) (e_tp ea_nil) (form_Lay _) (form_Lay [])).is (form_eqv _ []))) (fun hy => ?_) fun hy => ?_
    · rw [if_pos (of_decide_eq_true hy)]
      exact e_str
    · rw [if_neg (of_decide_eq_false hy)]
      exact e_str
end
end Sk
set_option maxHeartbeats 8000000
/-! Sk07: the law's pure defs: kth, hours, line_hour, outs, out_at. -/
namespace Sk
open PySem PySem.Spec PyProof.Rows L2
section
variable {P : Program} {w : World} {K : PySem.W.Frag} {mg : Str → Option Value} {base : Heap} {k : Nat} {N : List Str} {sc own : Scope} {X : Cx} {T : Dom} {ps : List Own} {ρ ρ' : List (Option PyData)} {os : List OD} {pos : Pos} {Ω : Res → Prop}
/-- x = [.. for ..] among one's own things -/
theorem w_lc (C : At P w K mg base k N sc own X) {α : Type} {elt tg iter : Expr} {ifs : List Expr} {scope : Scope} (i : Nat) {x : Str} {p spos : Pos} {rest : List Stmt} (ow : List (Str × Nat)) {ys : List α} (en : α → PyData) (b : α → Bool) (f : α → PyData)
    (hi : IT X (HT T ps) ρ tg iter (ys.map en)) (turn : Clause P w K mg base k N sc ρ elt tg ifs scope (ow.map (·.2)) ys en b f) (hl : ys.length ≤ 100000) (hr : XB X T ps (ρ.set i (some (.list (made b f ys)))) os rest Ω) (hoff : offs ps i = true := by rfl) (hb : blkC N sc scope ow = true := by decide +kernel)
    (hN : N[i]? = some x := by decide +kernel) (hy : sc.names.lookup x = some .local := by decide +kernel) (hln : (p.line == pos.line) = true := by rfl) (ha : (scope.names.any fun (n, k) => n == x && (k == .local || k == .cell)) = false := by decide +kernel) (hk : scope.kind = .function := by rfl)
    (hs : ∀ x, foldedSetIterable iter X.env x = pure x := by intro _; rfl) : XB X T ps ρ os (.Assign [.Name x p] (.ListComp elt [⟨tg, iter, ifs, 0⟩] scope pos) spos :: rest) Ω := fun σ H D s r n =>
  wss_cons (to_ws (ps_setLc (wi := wi X tg iter) (g := gB X scope tg) (tt := tB X scope ifs) (te := eB X scope elt) C.calm (by rw [C.eN]; exact C.nd) (by rw [C.eN]; exact hN) (by rw [C.esc]; exact hy)
    (sw_true (by rw [C.esc]; exact C.kind) (by rw [C.esc]; exact hy) hln ha) pi_wi (by rw [C.eN, C.esc]; exact blkOk_by hb)
    (fun s H' C' cl fp => ⟨fun pins s1 σ H v u Q I r h => h s H' C' cl fp pins s1 u I r⟩) (fun s H' C' cl fp => ⟨fun pins s1 σ H Q I h => h s H' C' cl fp pins s1 I⟩)
    (fun s H' C' cl fp => ⟨fun pins s1 σ H Q I h => h s H' C' cl fp pins s1 I⟩) hs) (lc_go C s.ok hi hk turn hl fun v H1 e1 hv => hr _ H1 D ((s.same e1).slots ((s.same e1).ok.set hv) fun q hq => List.getElem?_set_ne fun e => offs.ok hoff q hq e.symm)
      (fun d2 os2 f2 v2 σ2 H2 ρ2 e2 => r d2 os2 f2 v2 σ2 H2 ρ2 (ExO.trans (.of e1) e2)) fun ρ2 os2 f2 σ2 H2 e2 => n ρ2 os2 f2 σ2 H2 (ExO.trans (.of e1) e2)))
end
/-! ### kth -/
def kth (ns : List (Option Int)) (k : Nat) : Option Int := (dsort PyData.int (ns.filterMap id))[k - 1]?
def kthI (ns : List (Option Int)) (k : Int) : Option Int := kth ns k.toNat
theorem isNone_opt (o : Option Int) : isNone (optD o) = o.isNone := by cases o <;> rfl
theorem made_opt (ns : List (Option Int)) : made (fun o => !isNone (optD o)) optD ns = (ns.filterMap id).map PyData.int := by
  unfold made
  induction ns with
  | nil => rfl
  | cons o ns ih =>
    cases o with
    | none => exact ih
    | some i =>
      show optD (some i) :: _ = PyData.int i :: _
      rw [ih] <;> rfl
section
variable {P : Program} {w : World} {K : PySem.W.Frag} {mg : Str → Option Value} {base : Heap}
def R_kth (ds : List PyData) (d : PyData) : Prop := ∃ (ns : List (Option Int)) (k : Nat), ds = [.list (ns.map optD), .int (k : Int)] ∧ 1 ≤ k ∧ ns.length ≤ 1000 ∧ d = optD (kth ns k)
theorem ok_law_kth {f : Addr} {fd : FuncData} {x : Str} (B : Bt mg) (F : Fun K x x s_law_kth f fd) : FnOk P w K mg base CX0 1 f fd ["_law_numbers_so", "_law_k"] (Pu R_kth) := by
  refine fn_pure F sc_law_kth (fun ds d ⟨_, _, e, _⟩ => by rw [e]; rfl) fun X T ds d C ⟨ns, k, e, hk, hl, e2⟩ => ?_
  subst e e2
  refine b_set C 2 (e_sorted C B kind_int (sortable_int _) ((e_lc C [("_law_n", 3)] (ys := ns) optD (fun o => !isNone (optD o)) optD (it_list (e_var C 0 rfl)) (fun o ho => ⟨_, _, by decide, fun X' T' C' => ⟨tg_name C' 3, ets_one (et_cmp (c_notN (e_var C' 3 rfl))), fun _ => e_var C' 3 rfl⟩⟩) (by omega)).is (by rw [made_opt]))) ?_
  refine b_ret (e_if (et_cmp (c_ge (e_len C B (e_var C 2 rfl) (.inr rfl)) (e_var C 1 rfl))) (fun h => ?_) fun h => ?_)
  · have h := of_decide_eq_true h
    rw [List.length_map] at h
    have hlt : k - 1 < (dsort PyData.int (ns.filterMap id)).length := by omega
    refine (e_ixL (j := k - 1) (d := .int (dsort PyData.int (ns.filterMap id))[k - 1]) (e_var C 2 rfl) (e_sub (e_var C 1 rfl) e_int) (by omega) ?_).is ?_
    · rw [List.getElem?_map, List.getElem?_eq_getElem hlt] <;> rfl
    · unfold kth
      rw [List.getElem?_eq_getElem hlt] <;> rfl
  · have h := of_decide_eq_false h
    rw [List.length_map] at h
    refine e_none.is ?_
    unfold kth
    rw [List.getElem?_eq_none (by omega)] <;> rfl
/-! ### hours -/
def hoursOf (h : House) (b : Row) : List (Option Int) := h.zones.map fun z => kthI (z.1.map fun s => getS (dictS b) s) z.2
/-- zones as a house bears them -/
structure Zones (h : House) : Prop where
  knocks : ∀ z ∈ h.zones, z.2 = 1 ∨ z.2 = 2
abbrev HKth (P : Program) (w : World) (K : PySem.W.Frag) (mg : Str → Option Value) (base : Heap) : Prop := Has P w K mg base 1 "_law_kth" ["_law_numbers_so", "_law_k"] (Pu R_kth)
def R_hours (ds : List PyData) (d : PyData) : Prop := ∃ (h : House) (b : Row), ds = [eHouse h, eRow b] ∧ Size h ∧ Zones h ∧ d = .tuple ((hoursOf h b).map optD)
theorem ok_law_hours {f : Addr} {fd : FuncData} {x : Str} (B : Bt mg) (F : Fun K x x s_law_hours f fd) (H : HKth P w K mg base) : FnOk P w K mg base CX0 2 f fd ["_law_abode_so", "_law_begun_so"] (Pu R_hours) := by
  refine fn_pure F sc_law_hours (fun ds d ⟨_, _, e, _⟩ => by rw [e]; rfl) fun X T ds d C ⟨h, b, e, s, z, e2⟩ => ?_
  subst e e2
  refine b_set C 2 (e_dict C B (e_var C 1 rfl)) (bo_of (w_new C 3 (Φo := fun o os1 => o = .lst [] ∧ os1 = []) (xf_disp (xa_nil ⟨by decide, rfl, rfl⟩)) fun a o os1 ⟨e1, e2⟩ => ?_))
  subst e1 e2
  have sz := s.zones
  refine w_for C (ΦA := fun xs os1 => xs = h.zones.map eZone ∧ os1 = [.lst []]) (fun xs i ρi osi => xs = h.zones.map eZone ∧ (∃ u v y, ρi = [some (eHouse h), some (eRow b), some (eDict (dictS b)), none, u, v, y, none]) ∧ osi = [.lst (((hoursOf h b).take i).map optD)]) (i_of (it_tup (e_ix (j := 1) (e_var C 0 rfl) e_int rfl rfl)) ⟨rfl, rfl⟩) (fun xs os1 ⟨e1, e2⟩ => ⟨e1, ⟨none, none, none, rfl⟩, by rw [e2, List.take_zero] <;> rfl⟩) (fun xs i hlt ρi osi ⟨e1, ⟨u, v, y, e2⟩, e3⟩ => ?_) fun xs ρe ose ⟨e1, ⟨u, v, y, e2⟩, e3⟩ => ?_
  · subst e1 e2 e3
    have hi : i < h.zones.length := by simpa using hlt
    have hm : h.zones[i] ∈ h.zones := List.getElem_mem hi
    have lh : (hoursOf h b)[i]? = some (kthI (h.zones[i].1.map fun s => getS (dictS b) s) h.zones[i].2) := by
      unfold hoursOf
      rw [List.getElem?_map, List.getElem?_eq_getElem hi] <;> rfl
    have kn : 1 ≤ h.zones[i].2 := by rcases z.knocks _ hm with q | q <;> omega
    have lt : ((hoursOf h b).take i).length ≤ i := by rw [List.length_take]; exact Nat.min_le_left _ _
    rw [List.getElem_map]
    refine ⟨_, _, tg_tup C (tgs_cons (tg_name C 4) (tgs_cons (tg_name C 5) (tgs_cons (tg_name C 6) tgs_nil))), rfl, ?_⟩
    refine w_append C 0 rfl rfl (x_of (e_call C H (Nat.le_refl _) (ea_cons ((e_lc C [("_law_its", 7)] (ys := h.zones[i].1) eSpot (fun _ => true) (fun s => optD (getS (dictS b) s)) (it_tup (e_var C 4 rfl)) (fun q hq => ⟨_, _, by decide, fun X' T' C' => ⟨tg_name C' 7, ets_nil, fun _ => e_get1 C' (e_var C' 2 rfl) (e_var C' 7 rfl) ⟨rfl, rfl, rfl, rfl⟩⟩⟩) (by have := s.spots _ hm; omega)).is (c := .list ((h.zones[i].1.map fun s => getS (dictS b) s).map optD)) (by rw [made_all, List.map_map] <;> rfl)) (ea_cons (e_var C 5 rfl) ea_nil)) ⟨_, h.zones[i].2.toNat, by rw [Int.toNat_of_nonneg (by omega)], by omega, by have := s.spots _ hm; simp; omega, rfl⟩) ⟨_, rfl, by rw [List.length_map]; omega, w_nil ⟨rfl, ⟨_, _, _, rfl⟩, ?_⟩⟩)
    rw [take_snoc lh, List.map_append] <;> rfl
  · subst e1 e2 e3
    have lh : (hoursOf h b).length = h.zones.length := by unfold hoursOf; rw [List.length_map]
    rw [List.length_map, ← lh, List.take_length]
    exact w_retF (e_tupleL C B (e_var C 3 rfl)) rfl
/-! ### line_hour -/
def lineBegin (l : Line) (hs : List (Option Int)) : Option Int := kth (l.zs.map fun z => (hs[z]?).join) (if l.any then 1 else l.zs.length)
def lineEnd (l : Line) (hs : List (Option Int)) : Option Int := (lineBegin l hs).map (· + l.wait)
def R_line_hour (ds : List PyData) (d : PyData) : Prop := ∃ (l : Line) (hs : List (Option Int)), ds = [eLine l, .tuple (hs.map optD)] ∧ l.zs ≠ [] ∧ l.zs.length ≤ 2 ∧ (∀ z ∈ l.zs, z < hs.length) ∧ d = .tuple [optD (lineBegin l hs), optD (lineEnd l hs), .bool false]
theorem ok_law_line_hour {f : Addr} {fd : FuncData} {x : Str} (B : Bt mg) (F : Fun K x x s_law_line_hour f fd) (H : HKth P w K mg base) : FnOk P w K mg base CX0 2 f fd ["_law_line_so", "_law_hours_so"] (Pu R_line_hour) := by
  refine fn_pure F sc_law_line_hour (fun ds d ⟨_, _, e, _⟩ => by rw [e]; rfl) fun X T ds d C ⟨l, hs, e, ne, l2, hz, e2⟩ => ?_
  subst e e2
  have zl : 1 ≤ l.zs.length := by
    cases h : l.zs with
    | nil => exact absurd h ne
    | cons a b => simp
  refine b_lc C 2 [("_law_z", 5)] (ys := l.zs) eNat (fun _ => true) (fun z => optD (hs[z]?).join) (it_tup (e_ix (j := 2) (e_var C 0 rfl) e_int rfl rfl)) (fun z hm => ⟨_, _, by decide, fun X' T' C' => ⟨tg_name C' 5, ets_nil, fun _ => e_ix (j := z) (e_var C' 1 rfl) (e_var C' 5 rfl) rfl ?_⟩⟩) (by omega) ?_
  · rw [List.getElem?_map, List.getElem?_eq_getElem (hz z hm)]
    show some (optD (hs[z]'(hz z hm))) = some (optD (hs[z]?).join)
    rw [List.getElem?_eq_getElem (hz z hm)] <;> rfl
  refine b_set C 3 (d := optD (lineBegin l hs)) (e_call C H (Nat.le_refl _) (ea_cons (e_var C 2 rfl) (ea_cons (e_if (x := l.any) (d := .int ((if l.any then 1 else l.zs.length : Nat) : Int)) (et_cmp ((c_eq C (e_ix (j := 1) (e_var C 0 rfl) e_int rfl rfl) e_str (any_Lay _) (str_Lay _ (by decide +kernel))).is (eqv_any _))) (fun h => e_int.is (by rw [h] <;> rfl)) fun h => (e_len C B (e_var C 2 rfl) (.inr rfl)).is (by rw [h, made_all, List.length_map] <;> rfl)) ea_nil)) ⟨l.zs.map fun z => (hs[z]?).join, _, by rw [made_all, List.map_map] <;> rfl, by split <;> omega, by rw [List.length_map]; omega, rfl⟩) ?_
  refine b_ifC (et_cmp (c_isN (e_var C 3 rfl))) (fun h => ?_) fun h => ?_
  · rw [isNone_opt] at h
    have e : lineBegin l hs = none := by simpa using h
    refine b_ret ((e_tp (ea_cons e_none (ea_cons e_none (ea_cons e_bool ea_nil)))).is ?_)
    unfold lineEnd
    rw [e] <;> rfl
  · rw [isNone_opt] at h
    obtain ⟨i, hi⟩ : ∃ i, lineBegin l hs = some i := Option.isSome_iff_exists.mp (by simpa using h)
    unfold lineEnd
    rw [hi]
    have l0 : Lay (.list []) := lay_of (by simp [PyData.canLay0, PyData.canLayAll0]) (by simp [PyData.depth, PyData.depthAll])
    refine b_set C 4 (e_add (e_var C 3 rfl) (e_ix (j := 3) (e_var C 0 rfl) e_int rfl rfl)) (b_ret (E.is (e_tp (ea_cons (e_var C 3 rfl) (ea_cons (e_var C 4 rfl) (ea_cons (e_cmp (c := false) ((c_ne C (e_lc C [("_law_z", 5)] (ys := ([] : List Nat)) eNat (fun _ => true) eNat (it_tup (e_ix (j := 4) (e_var C 0 rfl) e_int rfl rfl)) (fun z hm => absurd hm (by simp)) (by decide)) (e_list ea_nil) l0 l0).is rfl)) ea_nil)))) ?_))
    rfl
end
end Sk
set_option maxHeartbeats 8000000
/-! Sk08: outs, out_at, the law's rows. -/
namespace Sk
open PySem PySem.Spec PyProof.Rows L2
/-! ### mirrors -/
def outAt (h : House) (hs : List (Option Int)) (k : Int) : Option Int := kth ((h.lines.filter fun l => decide (l.out = k)).map fun l => lineEnd l hs) 1
def outsOf (h : House) (hs : List (Option Int)) : List (Option Int) := [outAt h hs 0, outAt h hs 1]
def outNow (h : House) (b : Row) (k : Int) : Option Int := outAt h (hoursOf h b) k
def meetRow (r o : Row) : Row := (dsort eSpot ((o.foldl mixS (dictS r)).map (·.1))).map fun s => (s, (getS (o.foldl mixS (dictS r)) s).getD 0)
def meetRows (f g : List Row) : List Row := f.flatMap fun r => g.map fun o => meetRow r o
def onesOf (ss : List Spot) : List Row := ss.map fun s => [(s, 0)]
def zoneRows (z : Zone) : List Row := if z.2 = 1 then onesOf z.1 else (meetRows (onesOf z.1) (onesOf z.1)).filter fun r => decide (r.length = 2)
def zoneRowsAt (h : House) (n : Nat) : List Row := match h.zones[n]? with
  | some z => zoneRows z
  | none => []
def lineRows (h : House) (l : Line) : List Row := match l.zs.map (zoneRowsAt h) with
  | [] => []
  | f :: fs => afterF (fs.foldl (fun a b => if l.any then a ++ b else meetRows a b) f) l.wait
section
variable {P : Program} {w : World} {K : PySem.W.Frag} {mg : Str → Option Value} {base : Heap}
/-! ### outs -/
theorem hours_len (h : House) (b : Row) : (hoursOf h b).length = h.zones.length := by unfold hoursOf; rw [List.length_map]
def R_outs (ds : List PyData) (d : PyData) : Prop := ∃ (h : House) (hs : List (Option Int)), ds = [eHouse h, .tuple (hs.map optD)] ∧ Size h ∧ Lines h ∧ hs.length = h.zones.length ∧ d = .tuple ((outsOf h hs).map optD)
abbrev HLineHour (P : Program) (w : World) (K : PySem.W.Frag) (mg : Str → Option Value) (base : Heap) : Prop := Has P w K mg base 2 "_law_line_hour" ["_law_line_so", "_law_hours_so"] (Pu R_line_hour)
theorem ok_law_outs {f : Addr} {fd : FuncData} {x : Str} (B : Bt mg) (F : Fun K x x s_law_outs f fd) (H : HKth P w K mg base) (H2 : HLineHour P w K mg base) : FnOk P w K mg base CX0 3 f fd ["_law_abode_so", "_law_hours_so"] (Pu R_outs) := by
  refine fn_pure F sc_law_outs (fun ds d ⟨_, _, e, _⟩ => by rw [e]; rfl) fun X T ds d C ⟨h, hs, e, s, lok, hl, e2⟩ => ?_
  subst e e2
  refine bo_of (w_new C 2 (Φo := fun o os1 => o = .lst [] ∧ os1 = []) (xf_disp (xa_nil ⟨by decide, rfl, rfl⟩)) fun a o os1 ⟨e1, e2⟩ => ?_)
  subst e1 e2
  have sl := s.lines
  refine w_for C (ΦA := fun xs os1 => xs = upTo 2 ∧ os1 = [.lst []]) (fun xs i ρi osi => xs = upTo 2 ∧ (∃ u v y, ρi = [some (eHouse h), some (.tuple (hs.map optD)), none, u, v, y]) ∧ osi = [.lst (((outsOf h hs).take i).map optD)]) (i_of (it_range C B (n := 2) ((e_len C B (e_ix (j := 3) (e_var C 0 rfl) e_int rfl rfl) (.inl rfl)).is rfl) (by decide)) ⟨rfl, rfl⟩) (fun xs os1 ⟨e1, e2⟩ => ⟨e1, ⟨none, none, none, rfl⟩, by rw [e2, List.take_zero] <;> rfl⟩) (fun xs i hlt ρi osi ⟨e1, ⟨u, v, y, e2⟩, e3⟩ => ?_) fun xs ρe ose ⟨e1, ⟨u, v, y, e2⟩, e3⟩ => ?_
  · subst e1 e2 e3
    have hi : i < 2 := by simpa [upTo] using hlt
    have hx : (upTo 2)[i]'hlt = .int (i : Int) := Option.some.inj ((List.getElem?_eq_getElem hlt).symm.trans (upTo_at hi))
    have lh : (outsOf h hs)[i]? = some (outAt h hs (i : Int)) := by
      unfold outsOf
      match i, hi with
      | 0, _ => rfl
      | 1, _ => rfl
    have lt : ((outsOf h hs).take i).length ≤ i := by rw [List.length_take]; exact Nat.min_le_left _ _
    have fl := List.length_filter_le (fun l : Line => decide (l.out = (i : Int))) h.lines
    rw [hx]
    refine ⟨_, _, tg_name C 3, rfl, ?_⟩
    refine w_lc C 4 [("_law_own", 5)] (ys := h.lines) eLine (fun l => decide (l.out = (i : Int))) (fun l => .tuple [optD (lineBegin l hs), optD (lineEnd l hs), .bool false]) (it_tup (e_ix (j := 2) (e_var C 0 rfl) e_int rfl rfl)) (fun l hm => ⟨_, _, by decide, fun X' T' C' => ⟨tg_name C' 5, ets_one (et_cmp (c_eqI (e_ix (j := 5) (e_var C' 5 rfl) e_int rfl rfl) (e_var C' 3 rfl))), fun _ => e_call C' H2 (Nat.le_refl _) (ea_cons (e_var C' 5 rfl) (ea_cons (e_var C' 1 rfl) ea_nil)) ⟨l, hs, rfl, (lok.ok l hm).ne, s.asked l hm, by rw [hl]; exact (lok.ok l hm).zs, rfl⟩⟩⟩) (by omega) ?_
    refine w_append C 0 rfl rfl (x_of (e_call C H (by decide) (ea_cons ((e_lc C [("_law_own", 5)] (ys := h.lines.filter fun l => decide (l.out = (i : Int))) (fun l => .tuple [optD (lineBegin l hs), optD (lineEnd l hs), .bool false]) (fun _ => true) (fun l => optD (lineEnd l hs)) (it_list (e_var C 4 rfl)) (fun l hm => ⟨_, _, by decide, fun X' T' C' => ⟨tg_name C' 5, ets_one (ET.is (et_not (et_val (b := false) (e_ix (j := 2) (e_var C' 5 rfl) e_int rfl rfl))) rfl), fun _ => e_ix (j := 1) (e_var C' 5 rfl) e_int rfl rfl⟩⟩) (by omega)).is (c := .list (((h.lines.filter fun l => decide (l.out = (i : Int))).map fun l => lineEnd l hs).map optD)) (by rw [made_all, List.map_map] <;> rfl)) (ea_cons e_int ea_nil)) ⟨_, 1, rfl, by decide, by rw [List.length_map]; omega, rfl⟩) ⟨_, rfl, by rw [List.length_map]; omega, w_nil ⟨rfl, ⟨_, _, _, rfl⟩, ?_⟩⟩)
    rw [take_snoc lh, List.map_append] <;> rfl
  · subst e1 e2 e3
    exact w_retF (e_tupleL C B (e_var C 2 rfl)) rfl
def R_out_at (ds : List PyData) (d : PyData) : Prop := ∃ (h : House) (b : Row) (k : Nat), ds = [eHouse h, eRow b, eNat k] ∧ Size h ∧ Zones h ∧ Lines h ∧ k < 2 ∧ d = optD (outNow h b k)
theorem ok_law_out_at {f : Addr} {fd : FuncData} {x : Str} (F : Fun K x x s_law_out_at f fd) (H : Has P w K mg base 2 "_law_hours" ["_law_abode_so", "_law_begun_so"] (Pu R_hours)) (H2 : Has P w K mg base 3 "_law_outs" ["_law_abode_so", "_law_hours_so"] (Pu R_outs)) : FnOk P w K mg base CX0 4 f fd ["_law_abode_so", "_law_begun_so", "_law_k"] (Pu R_out_at) := by
  refine fn_pure F sc_law_out_at (fun ds d ⟨_, _, _, e, _⟩ => by rw [e]; rfl) fun X T ds d C ⟨h, b, k, e, s, z, lok, hk, e2⟩ => ?_
  subst e e2
  refine b_ret (e_ix (j := k) (e_call C H2 (Nat.le_refl _) (ea_cons (e_var C 0 rfl) (ea_cons (e_call C H (by decide) (ea_cons (e_var C 0 rfl) (ea_cons (e_var C 1 rfl) ea_nil)) ⟨h, b, rfl, s, z, rfl⟩) ea_nil)) ⟨h, _, rfl, s, lok, hours_len h b, rfl⟩) (e_var C 2 rfl) rfl ?_)
  match k, hk with
  | 0, _ => rfl
  | 1, _ => rfl
/-! ### put_at -/
def R_put_at (ds : List PyData) (d : PyData) : Prop := ∃ (row : List PyData) (n : Nat) (bit : PyData), ds = [.tuple row, eNat n, bit] ∧ row.length ≤ 100 ∧ d = .tuple (row.take n ++ [bit] ++ row.drop (n + 1))
theorem ok_law_put_at {f : Addr} {fd : FuncData} {x : Str} (F : Fun K x x s_law_put_at f fd) : FnOk P w K mg base CX0 1 f fd ["_law_row_so", "_law_place_so", "_law_bit_so"] (Pu R_put_at) := by
  refine fn_pure F sc_law_put_at (fun ds d ⟨_, _, _, e, _⟩ => by rw [e]; rfl) fun X T ds d C ⟨row, n, bit, e, hl, e2⟩ => ?_
  subst e e2
  have h1 := List.length_take_le n row
  have h2 : (row.take n).length ≤ row.length := by rw [List.length_take]; exact Nat.min_le_right _ _
  exact b_ret (e_cat (ds := row.take n ++ [bit]) (es := row.drop (n + 1)) (e_cat (ds := row.take n) (es := [bit]) (e_sl (l := none) (u := some n) (e_var C 0 rfl) eo_none (eo_some (e_var C 1 rfl))) (e_tp (ea_cons (e_var C 2 rfl) ea_nil)) (by simp; omega)) (e_sl (l := some (n + 1)) (u := none) (e_var C 0 rfl) (eo_some ((e_add (e_var C 1 rfl) e_int).is (congrArg PyData.int (by omega)))) eo_none) (by simp; omega))
end
end Sk
set_option maxHeartbeats 8000000
/-! Sk09: the law's rows. -/
namespace Sk
open PySem PySem.Spec PyProof.Rows L2
theorem flat_row (r : Row) : flat (eRow r) = true := by
  unfold eRow
  rw [flat]
  induction r with
  | nil => rfl
  | cons p r ih => rw [List.map_cons, flat.flats, ih] <;> rfl
/-- a key of the dict -/
theorem getS_some {r : Row} {s : Spot} (h : s ∈ r.map (·.1)) : ∃ v, getS r s = some v := by
  unfold getS
  obtain ⟨p, hp, rfl⟩ := List.mem_map.mp h
  have : (r.find? fun kv => decide (kv.1 = p.1)).isSome = true := by
    rw [List.find?_isSome]
    exact ⟨p, hp, by simp⟩
  obtain ⟨q, hq⟩ := Option.isSome_iff_exists.mp this
  exact ⟨q.2, by rw [hq] <;> rfl⟩
section
variable {P : Program} {w : World} {K : PySem.W.Frag} {mg : Str → Option Value} {base : Heap}
/-- rows in a list, of fair size -/
structure RowsOk (f : List Row) (n m : Nat) : Prop where
  len : f.length ≤ n
  row : ∀ r ∈ f, r.length ≤ m
def R_meet (ds : List PyData) (d : PyData) : Prop := ∃ (f g : List Row), ds = [.list (f.map eRow), .list (g.map eRow)] ∧ RowsOk f 100 100 ∧ RowsOk g 100 100 ∧ d = .list ((meetRows f g).map eRow)
theorem ok_law_meet_rows {f : Addr} {fd : FuncData} {x : Str} (B : Bt mg) (F : Fun K x x s_law_meet_rows f fd) : FnOk P w K mg base CX0 1 f fd ["_law_one_so", "_law_two_so"] (Pu R_meet) := by
  refine fn_pure F sc_law_meet_rows (fun ds d ⟨_, _, e, _⟩ => by rw [e]; rfl) fun X T ds d C ⟨f, g, e, hf, hg, e2⟩ => ?_
  subst e e2
  have bound : ∀ i j, ((f.take i).flatMap fun r => g.map fun o => meetRow r o).length ≤ 10000 ∧ (((f.take i).flatMap fun r => g.map fun o => meetRow r o) ++ (g.take j).map (meetRow (f.getD i []))).length ≤ 20000 := fun i j => by
    have h1 := flat_len (fun r o => meetRow r o) (f.take i) g
    have h2 : (f.take i).length ≤ 100 := by rw [List.length_take]; have := hf.len; omega
    have h3 : (g.take j).length ≤ 100 := by rw [List.length_take]; have := hg.len; omega
    have h4 := Nat.mul_le_mul h2 hg.len
    rw [List.length_append, List.length_map, h1]
    omega
  refine bo_of (w_new C 2 (Φo := fun o os1 => o = .lst [] ∧ os1 = []) (xf_disp (xa_nil ⟨by decide, rfl, rfl⟩)) fun a o os1 ⟨e1, e2⟩ => ?_)
  subst e1 e2
  refine w_for C (ΦA := fun xs os1 => xs = f.map eRow ∧ os1 = [.lst []]) (fun xs i ρi osi => xs = f.map eRow ∧ (∃ u v y z, ρi = [some (.list (f.map eRow)), some (.list (g.map eRow)), none, u, v, y, z, none]) ∧ osi = [.lst (((f.take i).flatMap fun r => g.map fun o => meetRow r o).map eRow)]) (i_of (it_list (e_var C 0 rfl)) ⟨rfl, rfl⟩) (fun xs os1 ⟨e1, e2⟩ => ⟨e1, ⟨none, none, none, none, rfl⟩, by rw [e2, List.take_zero] <;> rfl⟩) (fun xs i hlt ρi osi ⟨e1, ⟨u, v, y, z, e2⟩, e3⟩ => ?_) fun xs ρe ose ⟨e1, ⟨u, v, y, z, e2⟩, e3⟩ => ?_
  · subst e1 e2 e3
    have hi : i < f.length := by simpa using hlt
    rw [List.getElem_map]
    refine ⟨_, _, tg_name C 3, rfl, ?_⟩
    generalize hr : f[i] = r
    have rm : r ∈ f := by rw [← hr]; exact List.getElem_mem hi
    have rl := hf.row r rm
    refine w_for C (ΦA := fun xs os1 => xs = g.map eRow ∧ os1 = [.lst (((f.take i).flatMap fun r => g.map fun o => meetRow r o).map eRow)]) (fun xs j ρi osi => xs = g.map eRow ∧ (∃ v y z, ρi = [some (.list (f.map eRow)), some (.list (g.map eRow)), none, some (eRow r), v, y, z, none]) ∧ osi = [.lst ((((f.take i).flatMap fun r => g.map fun o => meetRow r o) ++ (g.take j).map (meetRow r)).map eRow)]) (i_of (it_list (e_var C 1 rfl)) ⟨rfl, rfl⟩) (fun xs os1 ⟨e1, e2⟩ => ⟨e1, ⟨_, _, _, rfl⟩, by rw [e2, List.take_zero, List.map_nil, List.append_nil]⟩) (fun xs j hlt ρi osi ⟨e1, ⟨v, y, z, e2⟩, e3⟩ => ?_) fun xs ρe ose ⟨e1, ⟨v, y, z, e2⟩, e3⟩ => ?_
    · subst e1 e2 e3
      have hj : j < g.length := by simpa using hlt
      rw [List.getElem_map]
      refine ⟨_, _, tg_name C 4, rfl, ?_⟩
      generalize ho : g[j] = o
      have om : o ∈ g := by rw [← ho]; exact List.getElem_mem hj
      have ol := hg.row o om
      have dl := dictS_len r
      have bd : (((f.take i).flatMap fun r => g.map fun o => meetRow r o) ++ (g.take j).map (meetRow r)).length ≤ 20000 := by
        have := (bound i j).2
        rw [List.getD_eq_getElem?_getD, List.getElem?_eq_getElem hi, hr] at this
        exact this
      refine w_new C 5 (Φo := fun d os1 => d = .dct (dictS r) ∧ os1 = [.lst ((((f.take i).flatMap fun r => g.map fun o => meetRow r o) ++ (g.take j).map (meetRow r)).map eRow)]) (xf_dict C B (e_var C 3 rfl) ⟨rfl, rfl⟩) fun b d os1 ⟨e1, e2⟩ => ?_
      subst e1 e2
      refine w_for C (ΦA := fun xs os1 => xs = o.map ePair ∧ os1 = [.dct (dictS r), .lst ((((f.take i).flatMap fun r => g.map fun o => meetRow r o) ++ (g.take j).map (meetRow r)).map eRow)]) (fun xs m ρi osi => xs = o.map ePair ∧ (∃ z, ρi = [some (.list (f.map eRow)), some (.list (g.map eRow)), none, some (eRow r), some (eRow o), none, z, none]) ∧ osi = [.dct ((o.take m).foldl mixS (dictS r)), .lst ((((f.take i).flatMap fun r => g.map fun o => meetRow r o) ++ (g.take j).map (meetRow r)).map eRow)]) (i_of (it_tup (e_var C 4 rfl)) ⟨rfl, rfl⟩) (fun xs os1 ⟨e1, e2⟩ => ⟨e1, ⟨_, rfl⟩, by rw [e2, List.take_zero] <;> rfl⟩) (fun xs m hlt ρi osi ⟨e1, ⟨z, e2⟩, e3⟩ => ?_) fun xs ρe ose ⟨e1, ⟨z, e2⟩, e3⟩ => ?_
      · subst e1 e2 e3
        have hm : m < o.length := by simpa using hlt
        rw [List.getElem_map]
        have ml := mixS_len (o.take m) (dictS r)
        have tl : (o.take m).length ≤ o.length := by rw [List.length_take]; exact Nat.min_le_right _ _
        refine ⟨_, _, tg_name C 6, rfl, w_put C 0 (rw_ := (o.take m).foldl mixS (dictS r)) (z := o[m].1) rfl rfl (e_max2 C B (e_ix (j := 1) (e_var C 6 rfl) e_int rfl rfl) (e_get2 C (e_var C 5 rfl) (e_ix (j := 0) (e_var C 6 rfl) e_int rfl rfl) e_int ⟨rfl, rfl, rfl, rfl⟩)) (e_ix (j := 0) (e_var C 6 rfl) e_int rfl rfl) (by omega) (w_nil ⟨rfl, ⟨_, rfl⟩, ?_⟩)⟩
        rw [take_snoc (List.getElem?_eq_getElem hm), List.foldl_append] <;> rfl
      · subst e1 e2 e3
        rw [List.length_map, List.take_length]
        have ml := mixS_len o (dictS r)
        refine w_append C 1 rfl rfl (x_ofF (d := eRow (meetRow r o)) ((e_tupleL C B (e_lc C [("_law_spot_so", 7)] (ys := dsort eSpot ((o.foldl mixS (dictS r)).map (·.1))) eSpot (fun _ => true) (fun s => ePair (s, (getS (o.foldl mixS (dictS r)) s).getD 0)) (it_list (e_sortD C B (r := o.foldl mixS (dictS r)) (e_var C 5 rfl) (by omega))) (fun s hs => ⟨_, _, by decide, fun X' T' C' => ⟨tg_name C' 7, ets_nil, fun _ => e_tp (ea_cons (e_var C' 7 rfl) (ea_cons ?_ ea_nil))⟩⟩) (by rw [dsort_len, List.length_map]; omega))).is ?_) (flat_row _) ⟨_, rfl, ?_, w_nil ⟨rfl, ⟨_, _, _, rfl⟩, ?_⟩⟩)
        · have hm : s ∈ (o.foldl mixS (dictS r)).map (·.1) := (dsort_perm eSpot _).mem_iff.mp hs
          obtain ⟨v, hv⟩ := getS_some hm
          refine e_ixD C' (e_var C' 5 rfl) (e_var C' 7 rfl) ?_
          show getS (o.foldl mixS (dictS r)) s = some ((getS (o.foldl mixS (dictS r)) s).getD 0)
          rw [hv] <;> rfl
        · rw [made_all]
          show PyData.tuple _ = PyData.tuple ((meetRow r o).map ePair)
          unfold meetRow
          rw [List.map_map] <;> rfl
        · rw [List.length_map]
          omega
        · rw [take_snoc (List.getElem?_eq_getElem hj), ho]
          show [OD.lst _] = [OD.lst _]
          congr 2
          simp only [List.map_append, List.map_cons, List.map_nil, List.append_assoc]
    · subst e1 e2 e3
      rw [List.length_map, List.take_length]
      refine w_nil ⟨rfl, ⟨_, _, _, _, rfl⟩, ?_⟩
      rw [flat_take _ hi, hr]
  · subst e1 e2 e3
    rw [List.length_map, List.take_length]
    exact w_retF (e_var C 2 rfl) rfl
/-! ### zone_rows -/
theorem fold_keep : ∀ (o acc : Row), o.foldl mixS acc = o.foldl mixS acc := fun _ _ => rfl
theorem meet_len (r o : Row) : (meetRow r o).length ≤ r.length + o.length := by
  unfold meetRow
  rw [List.length_map, dsort_len, List.length_map]
  have h1 := mixS_len o (dictS r)
  have h2 := dictS_len r
  omega
theorem meets_ok {f g : List Row} {n m a b : Nat} (h : RowsOk f n m) (k : RowsOk g a b) : RowsOk (meetRows f g) (n * a) (m + b) := by
  refine ⟨by unfold meetRows; rw [flat_len]; exact Nat.mul_le_mul h.len k.len, fun r hr => ?_⟩
  obtain ⟨x, hx, hr⟩ := List.mem_flatMap.mp hr
  obtain ⟨y, hy, rfl⟩ := List.mem_map.mp hr
  have h1 := meet_len x y
  have h2 := h.row x hx
  have h3 := k.row y hy
  omega
theorem RowsOk.wide {f : List Row} {n m a b : Nat} (h : RowsOk f n m) (h1 : n ≤ a) (h2 : m ≤ b) : RowsOk f a b := ⟨Nat.le_trans h.len h1, fun r hr => Nat.le_trans (h.row r hr) h2⟩
theorem ones_ok (ss : List Spot) (h : ss.length ≤ 3) : RowsOk (onesOf ss) 3 1 := ⟨by unfold onesOf; rw [List.length_map]; exact h, fun r hr => by
  unfold onesOf at hr
  obtain ⟨s, _, rfl⟩ := List.mem_map.mp hr
  simp⟩
theorem zoneRows_ok (z : Zone) (h : z.1.length ≤ 3) : RowsOk (zoneRows z) 9 2 := by
  unfold zoneRows
  split
  · exact (ones_ok z.1 h).wide (by decide) (by decide)
  · have := meets_ok (ones_ok z.1 h) (ones_ok z.1 h)
    exact ⟨Nat.le_trans (List.length_filter_le _ _) this.len, fun r hr => this.row r (List.mem_filter.mp hr).1⟩
def R_zone_rows (ds : List PyData) (d : PyData) : Prop := ∃ z : Zone, ds = [eZone z] ∧ z.1.length ≤ 3 ∧ d = .list ((zoneRows z).map eRow)
abbrev HMeet (P : Program) (w : World) (K : PySem.W.Frag) (mg : Str → Option Value) (base : Heap) : Prop := Has P w K mg base 1 "_law_meet_rows" ["_law_one_so", "_law_two_so"] (Pu R_meet)
theorem ok_law_zone_rows {f : Addr} {fd : FuncData} {x : Str} (B : Bt mg) (F : Fun K x x s_law_zone_rows f fd) (H : HMeet P w K mg base) : FnOk P w K mg base CX0 2 f fd ["_law_zone_so"] (Pu R_zone_rows) := by
  refine fn_pure F sc_law_zone_rows (fun ds d ⟨_, e, _⟩ => by rw [e]; rfl) fun X T ds d C ⟨z, e, hl, e2⟩ => ?_
  subst e e2
  have oo := (ones_ok z.1 hl).wide (a := 100) (b := 100) (by decide) (by decide)
  have mo := meets_ok (ones_ok z.1 hl) (ones_ok z.1 hl)
  refine b_lc C 1 [("_law_own", 2)] (ys := z.1) eSpot (fun _ => true) (fun s => eRow [(s, 0)]) (it_tup (e_ix (j := 0) (e_var C 0 rfl) e_int rfl rfl)) (fun s hs => ⟨_, _, by decide, fun X' T' C' => ⟨tg_name C' 2, ets_nil, fun _ => e_tp (ea_cons (e_tp (ea_cons (e_var C' 2 rfl) (ea_cons e_int ea_nil))) ea_nil)⟩⟩) (by omega) ?_
  have eo : made (fun _ => true) (fun s => eRow [(s, 0)]) z.1 = (onesOf z.1).map eRow := by rw [made_all, onesOf, List.map_map] <;> rfl
  rw [eo]
  refine b_ifC (et_cmp (c_eqI (e_ix (j := 1) (e_var C 0 rfl) e_int rfl rfl) e_int)) (fun h => b_ret ((e_var C 1 rfl).is ?_)) fun h => b_ret ((e_lc C [("_law_row_so", 3)] (ys := meetRows (onesOf z.1) (onesOf z.1)) eRow (fun r => decide (r.length = 2)) eRow (it_list (e_call C H (Nat.le_refl _) (ea_cons (e_var C 1 rfl) (ea_cons (e_var C 1 rfl) ea_nil)) ⟨_, _, rfl, oo, oo, rfl⟩)) (fun r hr => ⟨_, _, by decide, fun X' T' C' => ⟨tg_name C' 3, ets_one (et_cmp ((c_eqI (e_len C' B (e_var C' 3 rfl) (.inl rfl)) e_int).is ?_)), fun _ => e_var C' 3 rfl⟩⟩) (by have := mo.len; omega)).is ?_)
  · unfold zoneRows
    rw [if_pos (of_decide_eq_true h)]
  · rw [List.length_map, Bool.eq_iff_iff, decide_eq_true_iff, decide_eq_true_iff]
    omega
  · unfold zoneRows
    rw [if_neg (of_decide_eq_false h)] <;> rfl
/-! ### line_rows -/
theorem zoneRowsAt_ok {h : House} (s : Size h) (n : Nat) : RowsOk (zoneRowsAt h n) 9 2 := by
  unfold zoneRowsAt
  cases e : h.zones[n]? with
  | none => exact ⟨by simp, fun r hr => by simp at hr⟩
  | some z => exact zoneRows_ok z (s.spots z (List.mem_of_getElem? e))
theorem after_ok {f : List Row} {n m : Nat} (h : RowsOk f n m) (w : Int) : RowsOk (afterF f w) n m := by
  refine ⟨by rw [afterF, List.length_map]; exact h.len, fun r hr => ?_⟩
  obtain ⟨x, hx, rfl⟩ := List.mem_map.mp hr
  rw [List.length_map]
  exact h.row x hx
theorem append_ok {f g : List Row} {n m a b : Nat} (h : RowsOk f n m) (k : RowsOk g a b) : RowsOk (f ++ g) (n + a) (max m b) := by
  refine ⟨by rw [List.length_append]; have := h.len; have := k.len; omega, fun r hr => ?_⟩
  rcases List.mem_append.mp hr with q | q
  · have := h.row r q; omega
  · have := k.row r q; omega
theorem lineRows_ok {h : House} (s : Size h) {l : Line} (l2 : l.zs.length ≤ 2) : RowsOk (lineRows h l) 81 4 := by
  unfold lineRows
  match hz : l.zs, l2 with
  | [], _ => exact ⟨by simp, fun r hr => by simp at hr⟩
  | [a], _ => exact (after_ok (zoneRowsAt_ok s a) l.wait).wide (by decide) (by decide)
  | [a, b], _ =>
    show RowsOk (afterF (if l.any = true then zoneRowsAt h a ++ zoneRowsAt h b else meetRows (zoneRowsAt h a) (zoneRowsAt h b)) l.wait) 81 4
    split
    · exact (after_ok (append_ok (zoneRowsAt_ok s a) (zoneRowsAt_ok s b)) l.wait).wide (by decide) (by decide)
    · exact (after_ok (meets_ok (zoneRowsAt_ok s a) (zoneRowsAt_ok s b)) l.wait).wide (by decide) (by decide)
  | _ :: _ :: _ :: _, h2 => simp at h2
def R_line_rows (ds : List PyData) (d : PyData) : Prop := ∃ (h : House) (l : Line), ds = [eHouse h, eLine l] ∧ Size h ∧ LineOk h l ∧ d = .list ((lineRows h l).map eRow)
theorem ok_law_line_rows {f : Addr} {fd : FuncData} {x : Str} (B : Bt mg) (F : Fun K x x s_law_line_rows f fd) (H : HMeet P w K mg base) (H2 : Has P w K mg base 2 "_law_zone_rows" ["_law_zone_so"] (Pu R_zone_rows)) : FnOk P w K mg base CX0 3 f fd ["_law_abode_so", "_law_line_so"] (Pu R_line_rows) := by
  refine fn_pure F sc_law_line_rows (fun ds d ⟨_, _, e, _⟩ => by rw [e]; rfl) fun X T ds d C ⟨h, l, e, s, ok, e2⟩ => ?_
  subst e e2
  have l2 := s.asked l ok.mem
  have zr : ∀ n ∈ l.zs, ∃ z, (h.zones.map eZone)[n]? = some (eZone z) ∧ z.1.length ≤ 3 ∧ zoneRowsAt h n = zoneRows z := fun n hn => by
    have hlt := ok.zs n hn
    refine ⟨h.zones[n], by rw [List.getElem?_map, List.getElem?_eq_getElem hlt] <;> rfl, s.spots _ (List.getElem_mem hlt), ?_⟩
    unfold zoneRowsAt
    rw [List.getElem?_eq_getElem hlt]
  have key : ∀ (fr : List Row) (u v : Option PyData), RowsOk fr 100 4 → BO X T [some (eHouse h), some (eLine l), some (.list (fr.map eRow)), u, v, none, none] [defBody s_law_line_rows |>.getD 2 (.Pass ⟨0, 0, 0, 0⟩)] (.rt (.list ((afterF fr l.wait).map eRow))) := fun fr u v hfr => by
    refine b_ret ((e_lc C [("_law_own", 5), ("_law_row_so", 6)] (ys := fr) eRow (fun _ => true) (fun r => eRow (r.map fun p => (p.1, p.2 + l.wait))) (it_list (e_var C 2 rfl)) (fun r hr => ⟨_, _, by decide, fun X' T' C' => ⟨tg_name C' 6, ets_nil, fun _ => (e_tupleL C' B (e_lc C' [("_law_own", 5)] (ys := r) ePair (fun _ => true) (fun p => ePair (p.1, p.2 + l.wait)) (it_tup (e_var C' 6 rfl)) (fun p hp => ⟨_, _, by decide, fun X2 T2 C2 => ⟨tg_name C2 5, ets_nil, fun _ => e_tp (ea_cons (e_ix (j := 0) (e_var C2 5 rfl) e_int rfl rfl) (ea_cons (e_add (e_ix (j := 1) (e_var C2 5 rfl) e_int rfl rfl) (e_ix (j := 3) (e_var C2 1 rfl) e_int rfl rfl)) ea_nil))⟩⟩) (by have := hfr.row r hr; omega))).is ?_⟩⟩) (by have := hfr.len; omega)).is ?_)
    · rw [made_all]
      show PyData.tuple _ = PyData.tuple (List.map ePair (r.map _))
      rw [List.map_map] <;> rfl
    · rw [made_all, afterF, List.map_map] <;> rfl
  unfold lineRows
  match hz : l.zs, l2, ok.ne with
  | [], _, n => exact absurd rfl n
  | [a], _, _ =>
    obtain ⟨z, z1, z2, z3⟩ := zr a (by rw [hz]; simp)
    have e0 : (eLine l) = .tuple [.int l.p, .str (if l.any then sAny else sAll), .tuple [eNat a], .int l.wait, .tuple [], .int l.out, .int l.x, .int l.y] := by unfold eLine; rw [hz] <;> rfl
    rw [e0] at key ⊢
    have zo := (zoneRowsAt_ok s a).wide (a := 100) (b := 4) (by decide) (by decide)
    refine b_set C 2 (e_call C H2 (Nat.le_refl _) (ea_cons (e_ix (j := a) (e_ix (j := 1) (e_var C 0 rfl) e_int rfl rfl) (e_ix (j := 0) (e_ix (j := 2) (e_var C 1 rfl) e_int rfl rfl) e_int rfl rfl) rfl z1) ea_nil) ⟨z, rfl, z2, by first | (rw [← z3] <;> rfl) | (rw [z3] <;> rfl)⟩) (b_for C (ys := ([] : List Nat)) eNat (fun _ => _) (it_tup ((e_sl (e_ix (j := 2) (e_var C 1 rfl) e_int rfl rfl) (eo_some (n := 1) (e_int.is rfl)) eo_none).is rfl)) rfl (fun i hi => absurd hi (by simp)) (key (zoneRowsAt h a) none none zo))
  | [a, b], _, _ =>
    obtain ⟨z, z1, z2, z3⟩ := zr a (by rw [hz]; simp)
    obtain ⟨y, y1, y2, y3⟩ := zr b (by rw [hz]; simp)
    have e0 : (eLine l) = .tuple [.int l.p, .str (if l.any then sAny else sAll), .tuple [eNat a, eNat b], .int l.wait, .tuple [], .int l.out, .int l.x, .int l.y] := by unfold eLine; rw [hz] <;> rfl
    rw [e0] at key ⊢
    have za := zoneRowsAt_ok s a
    have zb := zoneRowsAt_ok s b
    have fo : RowsOk (if l.any = true then zoneRowsAt h a ++ zoneRowsAt h b else meetRows (zoneRowsAt h a) (zoneRowsAt h b)) 100 4 := by
      split
      · exact (append_ok za zb).wide (by decide) (by decide)
      · exact (meets_ok za zb).wide (by decide) (by decide)
    refine b_set C 2 (e_call C H2 (Nat.le_refl _) (ea_cons (e_ix (j := a) (e_ix (j := 1) (e_var C 0 rfl) e_int rfl rfl) (e_ix (j := 0) (e_ix (j := 2) (e_var C 1 rfl) e_int rfl rfl) e_int rfl rfl) rfl z1) ea_nil) ⟨z, rfl, z2, by first | (rw [← z3] <;> rfl) | (rw [z3] <;> rfl)⟩) (b_for C (ys := [b]) eNat (fun i => [some (eHouse h), some (.tuple [.int l.p, .str (if l.any then sAny else sAll), .tuple [eNat a, eNat b], .int l.wait, .tuple [], .int l.out, .int l.x, .int l.y]), some (.list ((if i = 0 then zoneRowsAt h a else if l.any = true then zoneRowsAt h a ++ zoneRowsAt h b else meetRows (zoneRowsAt h a) (zoneRowsAt h b)).map eRow)), if i = 0 then none else some (eNat b), if i = 0 then none else some (.list ((zoneRowsAt h b).map eRow)), none, none]) (it_tup ((e_sl (e_ix (j := 2) (e_var C 1 rfl) e_int rfl rfl) (eo_some (n := 1) (e_int.is rfl)) eo_none).is rfl)) rfl (fun i hi => ?_) (key _ _ _ fo))
    have e0 : i = 0 := by simp at hi; omega
    subst e0
    have la := za.len
    have lb := zb.len
    refine ⟨_, _, tg_name C 3, b_set C 4 (e_call C H2 (Nat.le_refl _) (ea_cons (e_ix (j := b) (e_ix (j := 1) (e_var C 0 rfl) e_int rfl rfl) (e_var C 3 rfl) rfl y1) ea_nil) ⟨y, rfl, y2, by first | (rw [← y3] <;> rfl) | (rw [y3] <;> rfl)⟩) (b_set C 2 (e_if (x := l.any) (et_cmp ((c_eq C (e_ix (j := 1) (e_var C 1 rfl) e_int rfl rfl) e_str (any_Lay _) (str_Lay _ (by decide +kernel))).is (eqv_any _))) (fun hx => (e_catL (ds := (zoneRowsAt h a).map eRow) (es := (zoneRowsAt h b).map eRow) (e_var C 2 rfl) (e_var C 4 rfl) (by rw [List.length_map, List.length_map]; omega)).is ?_) fun hx => (e_call C H (by decide) (ea_cons (e_var C 2 rfl) (ea_cons (e_var C 4 rfl) ea_nil)) ⟨zoneRowsAt h a, zoneRowsAt h b, rfl, za.wide (by decide) (by decide), zb.wide (by decide) (by decide), rfl⟩).is ?_) b_nil)⟩
    · show _ = PyData.list ((if l.any = true then zoneRowsAt h a ++ zoneRowsAt h b else meetRows (zoneRowsAt h a) (zoneRowsAt h b)).map eRow)
      rw [if_pos hx, List.map_append]
    · show _ = PyData.list ((if l.any = true then zoneRowsAt h a ++ zoneRowsAt h b else meetRows (zoneRowsAt h a) (zoneRowsAt h b)).map eRow)
      rw [hx, if_neg Bool.false_ne_true]
  | _ :: _ :: _ :: _, h2, _ => simp at h2
end
end Sk
set_option maxHeartbeats 8000000
/-! Sk10: fire_of, fires, word; the law's spots and feelers. -/
namespace Sk
open PySem PySem.Spec PyProof.Rows L2
/-! ### mirrors -/
def rowMax : Row → Int
  | [] => 0
  | p :: r => r.foldl (fun m q => max m q.2) p.2
theorem fold_max : ∀ (r : Row) (m : Int), (m ≤ r.foldl (fun m q => max m q.2) m) ∧ (∀ q ∈ r, q.2 ≤ r.foldl (fun m q => max m q.2) m) ∧ (r.foldl (fun m q => max m q.2) m = m ∨ ∃ q ∈ r, r.foldl (fun m q => max m q.2) m = q.2)
  | [], m => ⟨Int.le_refl _, fun _ h => by simp at h, .inl rfl⟩
  | p :: r, m => by
    rw [List.foldl_cons]
    obtain ⟨h1, h2, h3⟩ := fold_max r (max m p.2)
    refine ⟨by omega, fun q hq => ?_, ?_⟩
    · rcases List.mem_cons.mp hq with e | hq
      · rw [e]; omega
      · exact h2 q hq
    · rcases h3 with h3 | ⟨q, hq, h3⟩
      · rcases Int.le_total m p.2 with z | z
        · exact .inr ⟨p, List.mem_cons_self, by omega⟩
        · exact .inl (by omega)
      · exact .inr ⟨q, List.mem_cons_of_mem _ hq, h3⟩
theorem rowMax_le {r : Row} {q : Pr} (h : q ∈ r) : q.2 ≤ rowMax r := by
  cases r with
  | nil => simp at h
  | cons p r =>
    obtain ⟨h1, h2, _⟩ := fold_max r p.2
    rcases List.mem_cons.mp h with e | h
    · rw [e]; exact h1
    · exact h2 q h
theorem rowMax_mem {r : Row} (h : r ≠ []) : ∃ q ∈ r, rowMax r = q.2 := by
  cases r with
  | nil => exact absurd rfl h
  | cons p r =>
    obtain ⟨_, _, h3⟩ := fold_max r p.2
    rcases h3 with h3 | ⟨q, hq, h3⟩
    · exact ⟨p, List.mem_cons_self, h3⟩
    · exact ⟨q, List.mem_cons_of_mem _ hq, h3⟩
def fireOf (r : Row) : Row := r.map fun p => (p.1, rowMax r - p.2)
def firesL (h : House) (k : Int) : List Row := h.lines.flatMap fun l => if l.out = k then (lineRows h l).map fireOf else []
def firesOf (h : House) (k : Int) : List Row := dsort eRow (dd (firesL h k))
def butR (b : Row) (s : Spot) : Row := b.filter fun p => ![s].contains p.1
def allOf (h : House) : Row := (feelersOf h).map fun s => (s, 0)
def moved (h : House) (k : Int) (s : Spot) (b : Row) : Bool := decide (outNow h b k ≠ outNow h (butR b s) k)
def lawWord (h : House) (k : Int) (s : Spot) : Str :=
  if outNow h (allOf h) k = none then "never" else if outNow h (butR (allOf h) s) k = none then "always" else if (firesOf h k).any (moved h k s) = true then "some" else "never"
theorem fold_some (g : Row → Pr → Row) (hg : ∀ a p, g a p ≠ []) : ∀ (r acc : Row), acc ≠ [] → r.foldl g acc ≠ [] := fun r acc h => fold_pos hg r acc (.inr h)
theorem meet_pos {r o : Row} (h : r ≠ []) : meetRow r o ≠ [] := by
  intro z
  have hl : (meetRow r o).length = (o.foldl mixS (dictS r)).length := by
    unfold meetRow
    rw [List.length_map, dsort_len, List.length_map]
  rw [z, List.length_nil] at hl
  exact fold_pos (fun a p => putS_pos _ _ _) o _ (.inr (fold_pos (fun a p => putS_pos _ _ _) r [] (.inl h))) (List.length_eq_zero_iff.mp hl.symm)
theorem zoneRows_pos {z : Zone} : ∀ r ∈ zoneRows z, r ≠ [] := fun r hr => by
  unfold zoneRows at hr
  split at hr
  · unfold onesOf at hr
    obtain ⟨s, _, rfl⟩ := List.mem_map.mp hr
    simp
  · have := (List.mem_filter.mp hr).2
    intro e
    rw [e] at this
    simp at this
theorem zoneRowsAt_pos {h : House} {n : Nat} : ∀ r ∈ zoneRowsAt h n, r ≠ [] := fun r hr => by
  unfold zoneRowsAt at hr
  split at hr
  · exact zoneRows_pos r hr
  · simp at hr
theorem after_pos {f : List Row} {w : Int} (h : ∀ r ∈ f, r ≠ []) : ∀ r ∈ afterF f w, r ≠ [] := fun r hr => by
  obtain ⟨x, hx, rfl⟩ := List.mem_map.mp hr
  exact fun z => h x hx (List.map_eq_nil_iff.mp z)
theorem meets_pos {f g : List Row} (h : ∀ r ∈ f, r ≠ []) : ∀ r ∈ meetRows f g, r ≠ [] := fun r hr => by
  obtain ⟨x, hx, hr⟩ := List.mem_flatMap.mp hr
  obtain ⟨y, hy, rfl⟩ := List.mem_map.mp hr
  exact meet_pos (h x hx)
theorem lineRows_pos {h : House} {l : Line} (l2 : l.zs.length ≤ 2) : ∀ r ∈ lineRows h l, r ≠ [] := by
  unfold lineRows
  match hz : l.zs, l2 with
  | [], _ => intro r hr; simp at hr
  | [a], _ => exact after_pos zoneRowsAt_pos
  | [a, b], _ =>
    show ∀ r ∈ (afterF (if l.any = true then zoneRowsAt h a ++ zoneRowsAt h b else meetRows (zoneRowsAt h a) (zoneRowsAt h b)) l.wait), r ≠ []
    split
    · exact after_pos fun r hr => (List.mem_append.mp hr).elim (zoneRowsAt_pos r) (zoneRowsAt_pos r)
    · exact after_pos (meets_pos zoneRowsAt_pos)
  | _ :: _ :: _ :: _, h2 => simp at h2
section
variable {P : Program} {w : World} {K : PySem.W.Frag} {mg : Str → Option Value} {base : Heap}
/-! ### fire_of, fires -/
def R_fire (ds : List PyData) (d : PyData) : Prop := ∃ r : Row, ds = [eRow r] ∧ r ≠ [] ∧ r.length ≤ 100 ∧ d = eRow (fireOf r)
theorem ok_law_fire_of {f : Addr} {fd : FuncData} {x : Str} (B : Bt mg) (F : Fun K x x s_law_fire_of f fd) : FnOk P w K mg base CX0 1 f fd ["_law_row_so"] (Pu R_fire) := by
  refine fn_pure F sc_law_fire_of (fun ds d ⟨_, e, _⟩ => by rw [e]; rfl) fun X T ds d C ⟨r, e, ne, hl, e2⟩ => ?_
  subst e e2
  obtain ⟨q, hq, eq⟩ := rowMax_mem ne
  refine b_set C 1 (e_maxL (ns := r.map (·.2)) (m := rowMax r) C B ((e_lc C [("_law_own", 2)] (ys := r) ePair (fun _ => true) (fun p => .int p.2) (it_tup (e_var C 0 rfl)) (fun p hp => ⟨_, _, by decide, fun X' T' C' => ⟨tg_name C' 2, ets_nil, fun _ => e_ix (j := 1) (e_var C' 2 rfl) e_int rfl rfl⟩⟩) (by omega)).is (by rw [made_all, List.map_map] <;> rfl)) (by rw [eq]; exact List.mem_map.mpr ⟨q, hq, rfl⟩) (fun y hy => by obtain ⟨p, hp, rfl⟩ := List.mem_map.mp hy; exact rowMax_le hp)) (b_ret ((e_tupleL C B (e_lc C [("_law_own", 2)] (ys := r) ePair (fun _ => true) (fun p => ePair (p.1, rowMax r - p.2)) (it_tup (e_var C 0 rfl)) (fun p hp => ⟨_, _, by decide, fun X' T' C' => ⟨tg_name C' 2, ets_nil, fun _ => e_tp (ea_cons (e_ix (j := 0) (e_var C' 2 rfl) e_int rfl rfl) (ea_cons (e_sub (e_var C' 1 rfl) (e_ix (j := 1) (e_var C' 2 rfl) e_int rfl rfl)) ea_nil))⟩⟩) (by omega))).is ?_))
  rw [made_all]
  show PyData.tuple _ = PyData.tuple ((fireOf r).map ePair)
  unfold fireOf
  rw [List.map_map] <;> rfl
def fireStep (h : House) (k : Int) (acc : List Row) (l : Line) : List Row := if l.out = k then acc ++ (lineRows h l).map fireOf else acc
theorem fireStep_all (h : House) (k : Int) : ∀ (ls : List Line) (acc : List Row), ls.foldl (fireStep h k) acc = acc ++ ls.flatMap fun l => if l.out = k then (lineRows h l).map fireOf else []
  | [], acc => by simp
  | l :: ls, acc => by
    rw [List.foldl_cons, fireStep_all h k ls, List.flatMap_cons]
    unfold fireStep
    split
    · rw [List.append_assoc]
    · rfl
theorem fires_len {h : House} (s : Size h) (k : Int) : ∀ (ls : List Line), (∀ l ∈ ls, l ∈ h.lines) → (ls.flatMap fun l => if l.out = k then (lineRows h l).map fireOf else []).length ≤ 81 * ls.length
  | [], _ => by simp
  | l :: ls, hl => by
    rw [List.flatMap_cons, List.length_append, List.length_cons]
    have ih := fires_len s k ls fun x hx => hl x (List.mem_cons_of_mem _ hx)
    have lo := (lineRows_ok s (s.asked l (hl l List.mem_cons_self))).len
    split
    · rw [List.length_map]; omega
    · rw [List.length_nil]; omega
def R_fires (ds : List PyData) (d : PyData) : Prop := ∃ (h : House) (k : Nat), ds = [eHouse h, eNat k] ∧ Size h ∧ Lines h ∧ (dd (firesL h k)).length < 64 ∧ d = .list ((firesOf h k).map eRow)
theorem ok_law_fires {f : Addr} {fd : FuncData} {x : Str} (B : Bt mg) (F : Fun K x x s_law_fires f fd) (H : Has P w K mg base 1 "_law_fire_of" ["_law_row_so"] (Pu R_fire)) (H2 : Has P w K mg base 3 "_law_line_rows" ["_law_abode_so", "_law_line_so"] (Pu R_line_rows)) : FnOk P w K mg base CX0 4 f fd ["_law_abode_so", "_law_k"] (Pu R_fires) := by
  refine fn_pure F sc_law_fires (fun ds d ⟨_, _, e, _⟩ => by rw [e]; rfl) fun X T ds d C ⟨h, k, e, s, lok, few, e2⟩ => ?_
  subst e e2
  have sl := s.lines
  have pos : ∀ r ∈ firesL h k, r ≠ [] := fun r hr => by
    obtain ⟨l, hl, hr⟩ := List.mem_flatMap.mp hr
    split at hr
    · obtain ⟨x, hx, rfl⟩ := List.mem_map.mp hr
      exact fun z => lineRows_pos (s.asked l hl) x hx (List.map_eq_nil_iff.mp z)
    · simp at hr
  refine b_set C 2 (e_list ea_nil) (b_for C (ys := h.lines) eLine (fun i => [some (eHouse h), some (eNat k), some (.list (((h.lines.take i).foldl (fireStep h k) []).map eRow)), match i with | 0 => none | i + 1 => (h.lines[i]?).map eLine, none]) (it_tup (e_ix (j := 2) (e_var C 0 rfl) e_int rfl rfl)) (by show [some (eHouse h), some (eNat k), some (PyData.list (((h.lines.take 0).foldl (fireStep h k) []).map eRow)), none, none] = _; rw [List.take_zero] <;> rfl) (fun i hi => ?_) (b_ret ((e_sortSet C B keyed_row (fun zs hz => sortable_row zs fun r hr => pos r (hz r hr)) (ys := firesL h k) ((e_var C 2 rfl).is (by rw [List.take_length, fireStep_all, List.nil_append] <;> rfl)) (.inr rfl) few))))
  have lm : h.lines[i] ∈ h.lines := List.getElem_mem hi
  have tl : (h.lines.take i).length ≤ i := by rw [List.length_take]; exact Nat.min_le_left _ _
  have e1 : (h.lines.take (i + 1)).foldl (fireStep h k) [] = fireStep h k ((h.lines.take i).foldl (fireStep h k) []) h.lines[i] := by
    rw [take_snoc (List.getElem?_eq_getElem hi), List.foldl_append] <;> rfl
  have fl := fires_len s k (h.lines.take i) fun l hl => List.mem_of_mem_take hl
  have fa := fireStep_all h k (h.lines.take i) []
  rw [List.nil_append] at fa
  have lo := (lineRows_ok s (s.asked _ lm))
  refine ⟨_, _, tg_name C 3, b_if (ρ1 := [some (eHouse h), some (eNat k), some (.list (((h.lines.take (i + 1)).foldl (fireStep h k) []).map eRow)), (h.lines[i]?).map eLine, none]) (et_cmp (c_eqI (e_ix (j := 5) (e_var C 3 rfl) e_int rfl rfl) (e_var C 1 rfl))) ?_ b_nil⟩
  rw [e1, List.getElem?_eq_getElem hi]
  by_cases hk : h.lines[i].out = k
  · rw [decide_eq_true hk, if_pos rfl]
    refine b_set C 2 ((e_catL (ds := ((h.lines.take i).foldl (fireStep h k) []).map eRow) (es := ((lineRows h h.lines[i]).map fireOf).map eRow) (e_var C 2 rfl) ((e_lc C [("_law_row_so", 4)] (ys := lineRows h h.lines[i]) eRow (fun _ => true) (fun r => eRow (fireOf r)) (it_list (e_call C H2 (Nat.le_refl _) (ea_cons (e_var C 0 rfl) (ea_cons (e_var C 3 rfl) ea_nil)) ⟨h, _, rfl, s, lok.ok _ lm, rfl⟩)) (fun r hr => ⟨_, _, by decide, fun X' T' C' => ⟨tg_name C' 4, ets_nil, fun _ => e_call C' H (by decide) (ea_cons (e_var C' 4 rfl) ea_nil) ⟨r, rfl, lineRows_pos (s.asked _ lm) r hr, by have := lo.row r hr; omega, rfl⟩⟩⟩) (by have := lo.len; omega)).is (by rw [made_all, List.map_map] <;> rfl)) ?_).is ?_) b_nil
    · rw [List.length_map, List.length_map, List.length_map, fa]
      have := lo.len
      omega
    · unfold fireStep
      rw [if_pos hk, List.map_append]
  · rw [decide_eq_false hk, if_neg Bool.false_ne_true]
    unfold fireStep
    rw [if_neg hk]
    exact b_nil
end
end Sk
set_option maxHeartbeats 8000000
/-! Sk11: the law's spots and feelers, word. -/
namespace Sk
open PySem PySem.Spec PyProof.Rows L2
def sCut : Str := "cut"
def sFeel : Str := "feel"
def cutP : Piece := (sCut, [])
def eNN (q : Nat × Nat) : PyData := eSpot ((q.1 : Int), (q.2 : Int))
def lawSpots (rings : List Ring) : List (Nat × Nat) := (rings.zipIdx 0).flatMap fun q => ((q.1.2.zipIdx 0).filter fun r => decide (r.1 ≠ cutP)).map fun r => (q.2, r.2)
def wordAt (rings : List Ring) (q : Nat × Nat) : Str := match rings[q.1]? with
  | some r => match r.2[q.2]? with
    | some p => p.1
    | none => sCut
  | none => sCut
theorem ePiece_noB (p : Piece) : noB (ePiece p) = true := by
  unfold ePiece
  rw [noB, noB.noBs, noBs_map (fun _ => rfl)] <;> rfl
theorem ePiece_inj (p q : Piece) (h : ePiece p = ePiece q) : p = q := by
  unfold ePiece at h
  rw [PyData.tuple.injEq, List.cons.injEq, PyData.str.injEq] at h
  exact Prod.ext h.1 (map_inj (fun a b => PyData.int.inj) _ _ h.2)
theorem piece_eqv (p q : Piece) : PyData.eqv (ePiece p) (ePiece q) = decide (p = q) := eqv_dec ePiece_noB ePiece_inj p q
theorem piece_Lay (p : Piece) (h : PyData.strOk p.1 = true) : Lay (ePiece p) := by
  refine lay_of ?_ ?_
  · unfold ePiece
    simp only [PyData.canLay0, PyData.canLayAll0, h, Bool.true_and]
    exact lay_all (fun _ => rfl) p.2
  · unfold ePiece
    have := depth_all (en := PyData.int) (n := 0) (fun _ => by simp [PyData.depth]) p.2
    simp only [PyData.depth, PyData.depthAll]
    omega
theorem zip_at {α : Type} {l : List α} {q : α × Nat} (h : q ∈ l.zipIdx 0) : l[q.2]? = some q.1 := by
  have := List.mem_zipIdx h
  simp at this
  exact (List.getElem?_eq_getElem this.1).trans (congrArg some this.2.symm)
theorem cut_ne_feel : sCut ≠ sFeel := by decide +kernel
/-- the law's feelers are the program's -/
theorem feel_same (rings : List Ring) : ((lawSpots rings).filter fun q => decide (wordAt rings q = sFeel)).map eNN = (spotsOf rings sFeel).map eSpot := by
  unfold lawSpots spotsOf
  rw [List.filter_flatMap, List.map_flatMap, List.map_flatMap]
  have key : ∀ q ∈ rings.zipIdx 0, ((((q.1.2.zipIdx 0).filter fun r => decide (r.1 ≠ cutP)).map fun r => (q.2, r.2)).filter fun q => decide (wordAt rings q = sFeel)).map eNN = (spotsIn sFeel q.1.2 q.2).map eSpot := fun q hq => by
    have h1 := zip_at hq
    unfold spotsIn
    rw [List.filter_map, List.filter_filter, List.map_map, List.map_map]
    have e : ((q.1.2.zipIdx 0).filter fun r => ((fun q => decide (wordAt rings q = sFeel)) ∘ fun r => (q.2, r.2)) r && decide (r.1 ≠ cutP)) = (q.1.2.zipIdx 0).filter fun r => decide (r.1.1 = sFeel) := by
      refine List.filter_congr fun r hr => ?_
      have h2 := zip_at hr
      have ew : wordAt rings (q.2, r.2) = r.1.1 := by
        unfold wordAt
        rw [h1]
        show (match q.1.2[r.2]? with | some p => p.1 | none => sCut) = r.1.1
        rw [h2]
      show (decide (wordAt rings (q.2, r.2) = sFeel) && decide (r.1 ≠ cutP)) = decide (r.1.1 = sFeel)
      rw [ew]
      by_cases z : r.1.1 = sFeel
      · rw [decide_eq_true z, Bool.true_and, decide_eq_true_iff]
        intro e
        rw [e] at z
        exact cut_ne_feel z
      · rw [decide_eq_false z, Bool.false_and]
    rw [e] <;> rfl
  have go : ∀ (l : List (Ring × Nat)), (∀ q ∈ l, q ∈ rings.zipIdx 0) → (l.flatMap fun q => ((((q.1.2.zipIdx 0).filter fun r => decide (r.1 ≠ cutP)).map fun r => (q.2, r.2)).filter fun q => decide (wordAt rings q = sFeel)).map eNN) = l.flatMap fun q => (spotsIn sFeel q.1.2 q.2).map eSpot := by
    intro l
    induction l with
    | nil => intro _; rfl
    | cons q l ih =>
      intro z
      rw [List.flatMap_cons, List.flatMap_cons, key q (z q List.mem_cons_self), ih fun x hx => z x (List.mem_cons_of_mem _ hx)]
  exact go _ fun _ h => h
theorem lawSpots_mem {rings : List Ring} {q : Nat × Nat} (h : q ∈ lawSpots rings) : ∃ r p, rings[q.1]? = some r ∧ r.2[q.2]? = some p := by
  obtain ⟨x, hx, h⟩ := List.mem_flatMap.mp h
  obtain ⟨y, hy, rfl⟩ := List.mem_map.mp h
  exact ⟨_, _, zip_at hx, zip_at (List.mem_filter.mp hy).1⟩
theorem lawSpots_len {rings : List Ring} (h1 : rings.length ≤ 4) (h2 : ∀ r ∈ rings, r.2.length ≤ 20) (i : Nat) : (((rings.zipIdx 0).take i).flatMap fun q => ((q.1.2.zipIdx 0).filter fun r => decide (r.1 ≠ cutP)).map fun r => (q.2, r.2)).length ≤ 80 := by
  have key : ∀ (l : List (Ring × Nat)), (∀ q ∈ l, q.1.2.length ≤ 20) → (l.flatMap fun q => ((q.1.2.zipIdx 0).filter fun r => decide (r.1 ≠ cutP)).map fun r => (q.2, r.2)).length ≤ 20 * l.length := by
    intro l
    induction l with
    | nil => intro _; simp
    | cons q l ih =>
      intro z
      rw [List.flatMap_cons, List.length_append, List.length_cons, List.length_map]
      have a1 := ih fun q hq => z q (List.mem_cons_of_mem _ hq)
      have a2 := List.length_filter_le (fun r : Piece × Nat => decide (r.1 ≠ cutP)) (q.1.2.zipIdx 0)
      rw [List.length_zipIdx] at a2
      have a3 := z q List.mem_cons_self
      omega
  have k := key ((rings.zipIdx 0).take i) fun q hq => h2 q.1 (by
    have := List.mem_of_mem_take hq
    exact List.mem_of_getElem? (zip_at this))
  have l : ((rings.zipIdx 0).take i).length ≤ rings.length := by
    rw [List.length_take, List.length_zipIdx]
    exact Nat.min_le_right _ _
  omega
section
variable {P : Program} {w : World} {K : PySem.W.Frag} {mg : Str → Option Value} {base : Heap}
/-- wires of fair size -/
structure Wires (rings : List Ring) : Prop where
  few : rings.length ≤ 4
  pieces : ∀ r ∈ rings, r.2.length ≤ 20
  words : ∀ r ∈ rings, ∀ p ∈ r.2, PyData.strOk p.1 = true
theorem Size.wires {h : House} (s : Size h) : Wires h.rings := ⟨s.rings, fun r hr => (s.pieces r hr).1, s.words⟩
def R_lspots (ds : List PyData) (d : PyData) : Prop := ∃ rings : List Ring, ds = [.tuple (rings.map eRing)] ∧ Wires rings ∧ d = .list ((lawSpots rings).map eNN)
theorem ok_law_spots {f : Addr} {fd : FuncData} {x : Str} (B : Bt mg) (F : Fun K x x s_law_spots f fd) : FnOk P w K mg base CX0 1 f fd ["_law_wires_so"] (Pu R_lspots) := by
  refine fn_pure F sc_law_spots (fun ds d ⟨_, e, _⟩ => by rw [e]; rfl) fun X T ds d C ⟨rings, e, s, e2⟩ => ?_
  subst e e2
  have lz : (rings.zipIdx 0).length = rings.length := List.length_zipIdx
  refine b_set C 1 (e_list ea_nil) (b_for C (ys := rings.zipIdx 0) (fun q => .tuple [.int (q.2 : Int), eRing q.1]) (fun i => [some (.tuple (rings.map eRing)), some (.list ((((rings.zipIdx 0).take i).flatMap fun q => ((q.1.2.zipIdx 0).filter fun r => decide (r.1 ≠ cutP)).map fun r => (q.2, r.2)).map eNN)), match i with | 0 => none | i + 1 => ((rings.zipIdx 0)[i]?).map fun q => .int (q.2 : Int), match i with | 0 => none | i + 1 => ((rings.zipIdx 0)[i]?).map fun q => eRing q.1, none, none]) (by rw [← numbered_zip]; exact it_enumT C B (e_var C 0 rfl)) rfl (fun i hi => ?_) (b_ret ((e_var C 1 rfl).is (by rw [List.take_length] <;> rfl))))
  generalize hq : (rings.zipIdx 0)[i] = q
  have hq2 : (rings.zipIdx 0)[i]? = some q := by rw [List.getElem?_eq_getElem hi, hq]
  have hm := zip_at (List.mem_of_getElem? hq2)
  have rm := List.mem_of_getElem? hm
  have pl := s.pieces q.1 rm
  refine ⟨_, _, tg_tup C (tgs_cons (tg_name C 2) (tgs_cons (tg_name C 3) tgs_nil)), ?_⟩
  refine b_set C 1 (d := .list ((((rings.zipIdx 0).take i).flatMap (fun q => ((q.1.2.zipIdx 0).filter fun r => decide (r.1 ≠ cutP)).map fun r => (q.2, r.2)) ++ (((q.1.2.zipIdx 0).filter fun r => decide (r.1 ≠ cutP)).map fun r => (q.2, r.2))).map eNN)) ((e_catL (ds := (((rings.zipIdx 0).take i).flatMap fun q => ((q.1.2.zipIdx 0).filter fun r => decide (r.1 ≠ cutP)).map fun r => (q.2, r.2)).map eNN) (es := (((q.1.2.zipIdx 0).filter fun r => decide (r.1 ≠ cutP)).map fun r => (q.2, r.2)).map eNN) (e_var C 1 rfl) ((e_lc C [("_law_k", 4), ("_law_own", 5)] (ys := q.1.2.zipIdx 0) (fun r => .tuple [.int (r.2 : Int), ePiece r.1]) (fun r => decide (r.1 ≠ cutP)) (fun r => eNN (q.2, r.2)) (by rw [← numbered_zip]; exact it_enumT C B (e_ix (j := 1) (e_var C 3 rfl) e_int rfl rfl)) (fun r hr => ⟨_, _, by decide, fun X' T' C' => ⟨tg_tup C' (tgs_cons (tg_name C' 4) (tgs_cons (tg_name C' 5) tgs_nil)), ets_one (et_cmp ((c_ne C' (e_var C' 5 rfl) (E.is (c := ePiece cutP) (e_tp (ea_cons e_str ea_nil)) rfl) (piece_Lay _ (s.words q.1 rm r.1 (List.mem_of_getElem? (zip_at hr)))) (piece_Lay _ (by decide +kernel))).is ?_)), fun _ => e_tp (ea_cons (e_var C' 2 rfl) (ea_cons (e_var C' 4 rfl) ea_nil))⟩⟩) (by rw [List.length_zipIdx]; omega)).is ?_) ?_).is ?_) (b_nil.less rfl ?_)
  · rw [piece_eqv]
    show (!decide (r.1 = cutP)) = decide (r.1 ≠ cutP)
    rw [decide_not]
  · unfold made
    rw [List.map_map] <;> rfl
  · have h1 := lawSpots_len s.few s.pieces i
    have h2 := List.length_filter_le (fun r : Piece × Nat => decide (r.1 ≠ cutP)) (q.1.2.zipIdx 0)
    rw [List.length_zipIdx] at h2
    rw [List.length_map, List.length_map, List.length_map]
    omega
  · rw [← List.map_append]
  · intro j d hj
    rw [← hj]
    match j with
    | 0 => rfl
    | 1 =>
      show some (some (PyData.list _)) = some (some (PyData.list _))
      rw [flat_take _ hi, hq]
    | 2 =>
      show some (some (PyData.int (q.2 : Int))) = some (((rings.zipIdx 0)[i]?).map fun q => .int (q.2 : Int))
      rw [hq2] <;> rfl
    | 3 =>
      show some (some (eRing q.1)) = some (((rings.zipIdx 0)[i]?).map fun q => eRing q.1)
      rw [hq2] <;> rfl
    | 4 => simp at hj
    | 5 => simp at hj
    | n + 6 => rfl
def R_lfeelers (ds : List PyData) (d : PyData) : Prop := ∃ rings : List Ring, ds = [.tuple (rings.map eRing)] ∧ Wires rings ∧ d = .list ((spotsOf rings sFeel).map eSpot)
theorem ok_law_feelers {f : Addr} {fd : FuncData} {x : Str} (F : Fun K x x s_law_feelers f fd) (H : Has P w K mg base 1 "_law_spots" ["_law_wires_so"] (Pu R_lspots)) : FnOk P w K mg base CX0 2 f fd ["_law_wires_so"] (Pu R_lfeelers) := by
  refine fn_pure F sc_law_feelers (fun ds d ⟨_, e, _⟩ => by rw [e]; rfl) fun X T ds d C ⟨rings, e, s, e2⟩ => ?_
  subst e e2
  have ln := lawSpots_len s.few s.pieces (rings.zipIdx 0).length
  rw [List.take_length] at ln
  refine b_ret ((e_lc C [("_law_own", 1)] (ys := lawSpots rings) eNN (fun q => decide (wordAt rings q = sFeel)) eNN (it_list (e_call C H (Nat.le_refl _) (ea_cons (e_var C 0 rfl) ea_nil) ⟨rings, rfl, s, rfl⟩)) (fun q hq => ?_) (Nat.le_trans ln (by decide))).is (by rw [← feel_same] <;> rfl))
  obtain ⟨r, p, hr, hp⟩ := lawSpots_mem hq
  have hr' : (rings.map eRing)[q.1]? = some (eRing r) := by rw [List.getElem?_map, hr] <;> rfl
  have hp' : (r.2.map ePiece)[q.2]? = some (ePiece p) := by rw [List.getElem?_map, hp] <;> rfl
  have ew : wordAt rings q = p.1 := by
    unfold wordAt
    rw [hr]
    show (match r.2[q.2]? with | some p => p.1 | none => sCut) = p.1
    rw [hp]
  refine ⟨_, _, by decide, fun X' T' C' => ⟨tg_name C' 1, ets_one (et_cmp ((c_eq C' (e_ix (j := 0) (e_ix (j := q.2) (e_ix (j := 1) (e_ix (j := q.1) (e_var C' 0 rfl) (e_ix (j := 0) (e_var C' 1 rfl) e_int rfl rfl) rfl hr') e_int rfl rfl) (e_ix (j := 1) (e_var C' 1 rfl) e_int rfl rfl) rfl hp') e_int rfl rfl) e_str (str_Lay _ (s.words r (List.mem_of_getElem? hr) p (List.mem_of_getElem? hp))) (str_Lay _ (by decide +kernel))).is ?_)), fun _ => e_var C' 1 rfl⟩⟩
  rw [eqv_str]
  show decide (p.1 = sFeel) = decide (wordAt rings q = sFeel)
  rw [ew]
/-! ### word -/
theorem opt_noB (o : Option Int) : noB (optD o) = true := by cases o <;> rfl
theorem opt_inj (a b : Option Int) (h : optD a = optD b) : a = b := by
  cases a <;> cases b <;> simp [optD] at h <;> simp [h]
theorem opt_eqv (a b : Option Int) : PyData.eqv (optD a) (optD b) = decide (a = b) := eqv_dec opt_noB opt_inj a b
theorem opt_Lay (o : Option Int) : Lay (optD o) := by cases o <;> exact lay_of (by simp [optD, PyData.canLay0]) (by simp [optD, PyData.depth])
def R_word (ds : List PyData) (d : PyData) : Prop := ∃ (h : House) (k : Nat) (s : Spot), ds = [eHouse h, eNat k, eSpot s] ∧ Size h ∧ Zones h ∧ Lines h ∧ k < 2 ∧ (dd (firesL h k)).length < 64 ∧ d = .str (lawWord h k s)
abbrev HOutAt (P : Program) (w : World) (K : PySem.W.Frag) (mg : Str → Option Value) (base : Heap) : Prop := Has P w K mg base 4 "_law_out_at" ["_law_abode_so", "_law_begun_so", "_law_k"] (Pu R_out_at)
abbrev HBut (P : Program) (w : World) (K : PySem.W.Frag) (mg : Str → Option Value) (base : Heap) : Prop := Has P w K mg base 1 "_law_but" ["_law_begun_so", "_law_lost_so"] (Pu R_but)
theorem fireOf_len (r : Row) : (fireOf r).length = r.length := by unfold fireOf; rw [List.length_map]
theorem fires_row {h : House} (s : Size h) {k : Int} {r : Row} (hr : r ∈ firesOf h k) : r.length ≤ 4 := by
  have hr : r ∈ firesL h k := mem_dd.mp ((dsort_perm eRow _).mem_iff.mp hr)
  obtain ⟨l, hl, hr⟩ := List.mem_flatMap.mp hr
  split at hr
  · obtain ⟨x, hx, rfl⟩ := List.mem_map.mp hr
    rw [fireOf_len]
    exact (lineRows_ok s (s.asked l hl)).row x hx
  · simp at hr
theorem ok_law_word {f : Addr} {fd : FuncData} {x : Str} (B : Bt mg) (F : Fun K x x s_law_word f fd) (H1 : Has P w K mg base 2 "_law_feelers" ["_law_wires_so"] (Pu R_lfeelers)) (H2 : HOutAt P w K mg base) (H3 : HBut P w K mg base) (H4 : Has P w K mg base 4 "_law_fires" ["_law_abode_so", "_law_k"] (Pu R_fires)) : FnOk P w K mg base CX0 5 f fd ["_law_abode_so", "_law_k", "_law_spot_so"] (Pu R_word) := by
  refine fn_pure F sc_law_word (fun ds d ⟨_, _, _, e, _⟩ => by rw [e]; rfl) fun X T ds d C ⟨h, k, s, e, sz, zo, lok, hk, few, e2⟩ => ?_
  subst e e2
  have fl := feelers_len sz
  have al : (allOf h).length ≤ 80 := by unfold allOf; rw [List.length_map]; exact fl
  refine b_set C 3 (d := eRow (allOf h)) ((e_tupleL C B (e_lc C [("_law_own", 5)] (ys := feelersOf h) eSpot (fun _ => true) (fun s => ePair (s, 0)) (it_list (e_call C H1 (by decide) (ea_cons (e_ix (j := 0) (e_var C 0 rfl) e_int rfl rfl) ea_nil) ⟨h.rings, rfl, sz.wires, rfl⟩)) (fun q hq => ⟨_, _, by decide, fun X' T' C' => ⟨tg_name C' 5, ets_nil, fun _ => e_tp (ea_cons (e_var C' 5 rfl) (ea_cons e_int ea_nil))⟩⟩) (by omega))).is ?_) ?_
  · rw [made_all]
    show PyData.tuple _ = PyData.tuple ((allOf h).map ePair)
    unfold allOf
    rw [List.map_map] <;> rfl
  refine b_ifC (et_cmp ((c_isN (e_call C H2 (Nat.le_refl _) (ea_cons (e_var C 0 rfl) (ea_cons (e_var C 3 rfl) (ea_cons (e_var C 1 rfl) ea_nil))) ⟨h, allOf h, k, rfl, sz, zo, lok, hk, rfl⟩)).is (isNone_opt _))) (fun h1 => b_ret (e_str.is ?_)) fun h1 => ?_
  · unfold lawWord
    rw [if_pos (by simpa using h1)] <;> rfl
  refine b_ifC (et_cmp ((c_isN (e_call C H2 (Nat.le_refl _) (ea_cons (e_var C 0 rfl) (ea_cons (e_call C H3 (by decide) (ea_cons (e_var C 3 rfl) (ea_cons (e_tp (ea_cons (e_var C 2 rfl) ea_nil)) ea_nil)) ⟨allOf h, [s], rfl, by omega, rfl⟩) (ea_cons (e_var C 1 rfl) ea_nil))) ⟨h, butR (allOf h) s, k, rfl, sz, zo, lok, hk, rfl⟩)).is (isNone_opt _))) (fun h2 => b_ret (e_str.is ?_)) fun h2 => ?_
  · unfold lawWord
    rw [if_neg (fun z => by rw [z] at h1; cases h1), if_pos (by simpa using h2)] <;> rfl
  have hne1 : ¬ outNow h (allOf h) k = none := fun z => by rw [z] at h1; cases h1
  have hne2 : ¬ outNow h (butR (allOf h) s) k = none := fun z => by rw [z] at h2; cases h2
  have ew : lawWord h k s = if (firesOf h k).any (moved h k s) = true then ("some" : Str) else ("never" : Str) := by
    unfold lawWord
    rw [if_neg hne1, if_neg hne2]
  rw [ew]
  have turn : ∀ i (hi : i < (firesOf h k).length), (firesOf h k)[i].length ≤ 4 := fun i hi => fires_row sz (List.getElem_mem hi)
  by_cases hany : (firesOf h k).any (moved h k s) = true
  · rw [if_pos hany]
    have hex : ∃ x ∈ firesOf h k, moved h k s x = true := List.any_eq_true.mp hany
    have hj : (firesOf h k).findIdx (moved h k s) < (firesOf h k).length := List.findIdx_lt_length_of_exists hex
    refine b_forR C (ys := firesOf h k) eRow (fun i => [some (eHouse h), some (eNat k), some (eSpot s), some (eRow (allOf h)), match i with | 0 => none | i + 1 => ((firesOf h k)[i]?).map eRow, none]) ((firesOf h k).findIdx (moved h k s)) hj (it_list (e_call C H4 (Nat.le_refl _) (ea_cons (e_var C 0 rfl) (ea_cons (e_var C 1 rfl) ea_nil)) ⟨h, k, rfl, sz, lok, few, rfl⟩)) rfl (fun i hi hij => ?_) ?_
    · have tl := turn i hi
      refine ⟨_, _, tg_name C 4, ?_⟩
      refine b_ifF (et_cmp ((c_ne C (e_call C H2 (Nat.le_refl _) (ea_cons (e_var C 0 rfl) (ea_cons (e_var C 4 rfl) (ea_cons (e_var C 1 rfl) ea_nil))) ⟨h, (firesOf h k)[i], k, rfl, sz, zo, lok, hk, rfl⟩) (e_call C H2 (Nat.le_refl _) (ea_cons (e_var C 0 rfl) (ea_cons (e_call C H3 (by decide) (ea_cons (e_var C 4 rfl) (ea_cons (e_tp (ea_cons (e_var C 2 rfl) ea_nil)) ea_nil)) ⟨(firesOf h k)[i], [s], rfl, by omega, rfl⟩) (ea_cons (e_var C 1 rfl) ea_nil))) ⟨h, butR (firesOf h k)[i] s, k, rfl, sz, zo, lok, hk, rfl⟩) (opt_Lay _) (opt_Lay _)).is ?_)) (b_nil.less rfl ?_)
      · rw [opt_eqv, ← decide_not]
        exact List.not_of_lt_findIdx hij
      · intro m d hm
        rw [← hm]
        match m with
        | 0 => rfl
        | 1 => rfl
        | 2 => rfl
        | 3 => rfl
        | 4 =>
          show some (some (eRow (firesOf h k)[i])) = some (((firesOf h k)[i]?).map eRow)
          rw [List.getElem?_eq_getElem hi] <;> rfl
        | n + 5 => rfl
    · have tl := turn _ hj
      refine ⟨_, _, tg_name C 4, ?_⟩
      refine b_ifR (x := true) (et_cmp ((c_ne C (e_call C H2 (Nat.le_refl _) (ea_cons (e_var C 0 rfl) (ea_cons (e_var C 4 rfl) (ea_cons (e_var C 1 rfl) ea_nil))) ⟨h, (firesOf h k)[(firesOf h k).findIdx (moved h k s)], k, rfl, sz, zo, lok, hk, rfl⟩) (e_call C H2 (Nat.le_refl _) (ea_cons (e_var C 0 rfl) (ea_cons (e_call C H3 (by decide) (ea_cons (e_var C 4 rfl) (ea_cons (e_tp (ea_cons (e_var C 2 rfl) ea_nil)) ea_nil)) ⟨(firesOf h k)[(firesOf h k).findIdx (moved h k s)], [s], rfl, by omega, rfl⟩) (ea_cons (e_var C 1 rfl) ea_nil))) ⟨h, butR (firesOf h k)[(firesOf h k).findIdx (moved h k s)] s, k, rfl, sz, zo, lok, hk, rfl⟩) (opt_Lay _) (opt_Lay _)).is ?_)) (b_ret e_str)
      rw [opt_eqv, ← decide_not]
      exact List.findIdx_getElem (p := moved h k s) (w := hj)
  · rw [if_neg hany]
    refine b_for C (ys := firesOf h k) eRow (fun i => [some (eHouse h), some (eNat k), some (eSpot s), some (eRow (allOf h)), match i with | 0 => none | i + 1 => ((firesOf h k)[i]?).map eRow, none]) (it_list (e_call C H4 (Nat.le_refl _) (ea_cons (e_var C 0 rfl) (ea_cons (e_var C 1 rfl) ea_nil)) ⟨h, k, rfl, sz, lok, few, rfl⟩)) rfl (fun i hi => ?_) (b_ret e_str)
    have tl := turn i hi
    refine ⟨_, _, tg_name C 4, ?_⟩
    refine b_ifF (et_cmp ((c_ne C (e_call C H2 (Nat.le_refl _) (ea_cons (e_var C 0 rfl) (ea_cons (e_var C 4 rfl) (ea_cons (e_var C 1 rfl) ea_nil))) ⟨h, (firesOf h k)[i], k, rfl, sz, zo, lok, hk, rfl⟩) (e_call C H2 (Nat.le_refl _) (ea_cons (e_var C 0 rfl) (ea_cons (e_call C H3 (by decide) (ea_cons (e_var C 4 rfl) (ea_cons (e_tp (ea_cons (e_var C 2 rfl) ea_nil)) ea_nil)) ⟨(firesOf h k)[i], [s], rfl, by omega, rfl⟩) (ea_cons (e_var C 1 rfl) ea_nil))) ⟨h, butR (firesOf h k)[i] s, k, rfl, sz, zo, lok, hk, rfl⟩) (opt_Lay _) (opt_Lay _)).is ?_)) (b_nil.less rfl ?_)
    · rw [opt_eqv, ← decide_not]
      have q := List.any_eq_false.mp ((Bool.not_eq_true _).mp hany) _ (List.getElem_mem hi)
      exact (Bool.not_eq_true _).mp q
    · intro m d hm
      rw [← hm]
      match m with
      | 0 => rfl
      | 1 => rfl
      | 2 => rfl
      | 3 => rfl
      | 4 =>
        show some (some (eRow (firesOf h k)[i])) = some (((firesOf h k)[i]?).map eRow)
        rw [List.getElem?_eq_getElem hi] <;> rfl
      | n + 5 => rfl
end
end Sk
set_option maxHeartbeats 8000000
/-! Sk12: take, of, pick. -/
namespace Sk
open PySem PySem.Spec PyProof.Rows L2 PySem.W
section
variable {P : Program} {w : World} {K : PySem.W.Frag} {mg : Str → Option Value} {base : Heap}
/-- the source of draws laid open -/
theorem xb_tin {X : Cx} {T : Dom} {t : Addr} {n m : Nat} {ρ : List (Option PyData)} {sts : List Stmt} {R : PyData → Prop}
    (h : ∀ a b c : Int, 0 ≤ a → 0 ≤ b → b < 2 ^ 62 → 0 ≤ c → c ≤ n → XB X (fun x => T x ∧ x ≠ t) [(0, t)] ρ [.lst [.int a, .int b, .int c]] sts (fun r => ∃ d a' c', r = .rt d [.lst [.int a', .int b, .int c']] ∧ 0 ≤ a' ∧ 0 ≤ c' ∧ c' ≤ m ∧ flat d = true ∧ R d)) :
    XB X T [(0, t)] ρ [.tin n] sts (fun r => ∃ d, r = .rt d [.tin m] ∧ R d) := fun σ H D s r nx => by
  obtain ⟨o, e, h1, h2, u, h3, h4⟩ := s.at (j := 0) rfl
  cases (Option.some.inj e)
  have tt : T t := h2.mpr True.intro
  obtain ⟨a, b, c, rfl, ha, hb, hb2, hc, hcn⟩ := h4
  have eT : HT (fun x => T x ∧ x ≠ t) [(0, t)] = HT T [(0, t)] := by
    funext x
    refine propext ⟨fun z => z.elim (fun z => .inl z.1) .inr, fun z => ?_⟩
    rcases z with z | z
    · by_cases e : x = t
      · exact .inr ⟨(0, t), by simp, e.symm⟩
      · exact .inl ⟨z, e⟩
    · exact .inr z
  have s2 : SS (fun x => T x ∧ x ≠ t) [(0, t)] ρ [.lst [.int a, .int b, .int c]] σ H := ⟨by rw [eT]; exact s.ok, .cons ⟨h1, ⟨fun z => absurd rfl z.2, fun z => z.elim⟩, _, h3, ⟨_, rfl, Das.ints [a, b, c]⟩⟩ .nil, by simp⟩
  refine h a b c ha hb hb2 hc hcn σ H D s2 (fun d os' ⟨d2, a', c', er, k1, k2, k3, k4, k5⟩ v σ' H' ρ' e' s' dv => ?_) fun ρ' os' ⟨d2, a', c', er, _⟩ => by cases er
  cases er
  obtain ⟨o, e, g1, g2, u, g3, g4⟩ := s'.at (j := 0) rfl
  cases (Option.some.inj e)
  obtain ⟨xs, rfl, hx⟩ := g4
  have ex := Das.ints_inv (ns := [a', b, c']) hx
  subst ex
  have s3 : SS T [(0, t)] ρ' [.tin m] σ' H' := ⟨by rw [← eT]; exact s'.ok, .cons ⟨g1, ⟨fun _ => True.intro, fun _ => tt⟩, _, g3, ⟨a', b, c', rfl, k1, hb, hb2, k2, k3⟩⟩ .nil, by simp⟩
  refine r d _ ⟨d, rfl, k5⟩ v σ' H' ρ' e' s3 ?_
  have tk : TOk T H' := fun x z => s3.ok.1 x (.inl z)
  exact Da.tups (tups_hid tk) k4 (dv.mono hid_le)
theorem w_else {X : Cx} {T : Dom} {ps : List Own} {ρ : List (Option PyData)} {os : List OD} {rest : List Stmt} {Ω : Res → Prop} (h : XB X T ps ρ os rest Ω) : XB X T ps ρ os [] (Then X T ps rest Ω) := w_nil h
def Pre_take (ds : List PyData) : Prop := ∃ b : Nat, ds = [eNat b] ∧ 1 ≤ b ∧ b ≤ 1000
def R_take (ds : List PyData) (d : PyData) : Prop := ∃ b r : Nat, ds = [eNat b] ∧ d = eNat r ∧ r < b
theorem mod_nat (i : Int) (b : Nat) (h : 1 ≤ b) : ∃ r : Nat, i % (b : Int) = (r : Int) ∧ r < b := by
  have h1 := Int.emod_nonneg i (show (b : Int) ≠ 0 by omega)
  have h2 := Int.emod_lt_of_pos i (show (0 : Int) < b by omega)
  exact ⟨(i % (b : Int)).toNat, by omega, by omega⟩
theorem e_fdiv {X : Cx} {T : Dom} {ρ : List (Option PyData)} {pos : Pos} {a b : Expr} {i : Int} {m : Nat} (ha : E X T ρ a (.int i)) (hb : E X T ρ b (.int (m : Int))) (hi : 0 ≤ i) (hm : 1 ≤ m) (hm2 : m < 1073741824) : E X T ρ (.BinOp a .FloorDiv b pos) (.int ((i.toNat / m : Nat) : Int)) := fun σ H Q ok q =>
  we_op op_fdivNN (two ha hb ok fun x y H' e hx hy => ⟨i.toNat, m, by rw [hx.int_inv, Int.toNat_of_nonneg hi], hy.int_inv, ⟨hm, hm2⟩, q _ H' e (.int _)⟩)
theorem ok_law_take {f : Addr} {fd : FuncData} {x : Str} (B : Bt mg) (F : Fun K x x s_law_take f fd) : FnOk P w K mg base CX0 1 f fd ["_law_tin", "_law_below_so"] (PT 1 Pre_take R_take) := by
  refine fn_tin F sc_law_take (fun ds ⟨b, e, _⟩ => by rw [e]; rfl) fun X T t n ds C ⟨bl, e, b1, b2⟩ hn => ?_
  subst e
  refine XB.mono (xb_tin (m := n + 1) (R := fun d => R_take [eNat bl] d) fun a b c ha hb hb2 hc hcn => ?_) fun r ⟨d, er, hd⟩ => ⟨d, n + 1, er, Nat.le_refl _, hd⟩
  refine w_if (ΦT := fun z os1 => z = decide (0 < a) ∧ os1 = [.lst [.int a, .int b, .int c]]) (t_ofF (et_cmp (c_gt (e_ixL (j := 0) (e_var C 0 rfl) e_int rfl rfl) e_int)) ⟨rfl, rfl⟩) fun z os1 ⟨ez, eo⟩ => ?_
  subst ez eo
  by_cases h0 : 0 < a
  · rw [decide_eq_true h0, if_pos rfl]
    obtain ⟨r, hr, hlt⟩ := mod_nat a bl b1
    refine w_set C 2 (Ψ := fun d os1 => d = eNat r ∧ os1 = [.lst [.int a, .int b, .int c]]) (x_ofF (d := eNat r) ((e_mod (e_int1 C B (e_ixL (j := 0) (e_var C 0 rfl) e_int rfl rfl)) (e_var C 1 rfl) (by show (0 : Int) < (bl : Int); omega)).is (by unfold eNat; rw [← hr] <;> rfl)) rfl ⟨rfl, rfl⟩) (fun d os1 ⟨ed, eo⟩ => ?_)
    subst ed eo
    exact w_setL C 0 (m := 0) (d := .int ((a.toNat / bl : Nat) : Int)) rfl rfl (e_fdiv (e_ixL (j := 0) (e_var C 0 rfl) e_int rfl rfl) (e_var C 1 rfl) ha b1 (by omega)) rfl e_int (Nat.le_of_ble_eq_true rfl) (w_ret (x_of (e_var C 2 rfl) ⟨_, _, _, rfl, Int.natCast_nonneg _, hc, by omega, rfl, bl, r, rfl, rfl, hlt⟩))
  · rw [decide_eq_false h0, if_neg Bool.false_ne_true]
    refine w_else ?_
    refine w_setL C 0 (m := 2) (d := .int (c + 1)) rfl rfl (e_add (e_ixL (j := 2) (e_var C 0 rfl) e_int rfl rfl) e_int) rfl e_int (Nat.le_of_ble_eq_true rfl) ?_
    have hc2 : c ≤ 2 ^ 60 := by omega
    generalize ho : ((b + 48271 * (c + 1)) * (39373 + (c + 1))) % 2147483647 = once
    have o1 : 0 ≤ once ∧ once < 2147483647 := by rw [← ho]; omega
    refine w_set C 3 (Ψ := fun d os1 => d = .int once ∧ os1 = [.lst [.int a, .int b, .int (c + 1)]]) (x_ofF (d := .int once) ((e_mod (e_int1 C B (e_mul (e_add (e_ixL (j := 1) (e_var C 0 rfl) e_int rfl rfl) (e_mul e_int (e_ixL (j := 2) (e_var C 0 rfl) e_int rfl rfl) (.inl ⟨by decide, by decide⟩))) (e_add e_int (e_ixL (j := 2) (e_var C 0 rfl) e_int rfl rfl)) (.inr ⟨by omega, by omega⟩))) e_int (by decide)).is (by rw [← ho] <;> rfl)) rfl ⟨rfl, rfl⟩) (fun d os1 ⟨ed, eo⟩ => ?_)
    subst ed eo
    generalize hw : once % 40009 + 7 = wide
    have w1 : 0 ≤ wide ∧ wide < 50000 := by rw [← hw]; omega
    refine w_set C 4 (Ψ := fun d os1 => d = .int wide ∧ os1 = [.lst [.int a, .int b, .int (c + 1)]]) (x_of (d := .int wide) ((e_add (e_mod (e_int1 C B (e_var C 3 rfl)) e_int (by decide)) e_int).is (by rw [← hw] <;> rfl)) ⟨rfl, rfl⟩) (fun d os1 ⟨ed, eo⟩ => ?_)
    subst ed eo
    generalize hv : ((once + (c + 1) + ((b.toNat / 1000003 : Nat) : Int)) * wide) % 2147483629 = twice
    have v1 : 0 ≤ twice ∧ twice < 2147483629 := by rw [← hv]; omega
    refine w_set C 5 (Ψ := fun d os1 => d = .int twice ∧ os1 = [.lst [.int a, .int b, .int (c + 1)]]) (x_ofF (d := .int twice) ((e_mod (e_int1 C B (e_mul (e_add (e_add (e_var C 3 rfl) (e_ixL (j := 2) (e_var C 0 rfl) e_int rfl rfl)) (e_fdiv (m := 1000003) (e_ixL (j := 1) (e_var C 0 rfl) e_int rfl rfl) e_int hb (by decide) (by decide))) (e_var C 4 rfl) (.inr ⟨by omega, by omega⟩))) e_int (by decide)).is (by rw [← hv] <;> rfl)) rfl ⟨rfl, rfl⟩) (fun d os1 ⟨ed, eo⟩ => ?_)
    subst ed eo
    have f1 : 0 ≤ (twice * 48271 + once) % 2147483587 := by omega
    obtain ⟨r, hr, hlt⟩ := mod_nat ((((twice * 48271 + once) % 2147483587).toNat / 64 : Nat) : Int) bl b1
    exact w_ret (x_of (d := eNat r) ((e_mod (e_int1 C B (e_fdiv (m := 64) (e_mod (e_int1 C B (e_add (e_mul (e_var C 5 rfl) e_int (.inr ⟨by decide, by decide⟩)) (e_var C 3 rfl))) e_int (by decide)) e_int f1 (by decide) (by decide))) (e_var C 1 rfl) (by show (0 : Int) < (bl : Int); omega)).is (by unfold eNat; rw [← hr] <;> rfl)) ⟨_, _, _, rfl, ha, by omega, by omega, rfl, bl, r, rfl, rfl, hlt⟩)
end
end Sk
set_option maxHeartbeats 8000000
/-! Sk13: of, pick. -/
namespace Sk
open PySem PySem.Spec PyProof.Rows L2 PySem.W
section
variable {P : Program} {w : World} {K : PySem.W.Frag} {mg : Str → Option Value} {base : Heap}
abbrev HTake (P : Program) (w : World) (K : PySem.W.Frag) (mg : Str → Option Value) (base : Heap) : Prop := Has P w K mg base 1 "_law_take" ["_law_tin", "_law_below_so"] (PT 1 Pre_take R_take)
/-- take(tin, e) -/
theorem x_take {k : Nat} {N : List Str} {sc own : Scope} {X : Cx} {T : Dom} {ps : List Own} {ρ : List (Option PyData)} {os : List OD} {pos p p2 : Pos} {Φ : PyData → List OD → Prop} (C : At P w K mg base k N sc own X) (H : HTake P w K mg base) (hk : 1 ≤ k) (j : Nat) {i : Nat} {t : Addr} {e : Expr} (hp : ps[j]? = some (i, t)) {b n : Nat} (he : XE X T ps ρ os e (fun d os1 => d = eNat b ∧ os1 = os)) (ho : os[j]? = some (.tin n)) (hb : 1 ≤ b) (hb2 : b ≤ 1000) (hn : n + 1 ≤ 2 ^ 60)
    (f : ∀ r : Nat, r < b → Φ (eNat r) (os.set j (.tin (n + 1)))) (nm : nameOk N sc i "_law_tin" = true := by decide +kernel) (hx : globOk sc "_law_take" = true := by decide +kernel) (hpl : plainE e = true := by rfl) :
    XE X T ps ρ os (.Call (.Name "_law_take" p) [.Name "_law_tin" p2, e] [] pos) Φ :=
  x_callT C H hk j hp (xa_cons he (fun d os1 ⟨e1, e2⟩ => xa_nil (by
    subst e1 e2
    exact ⟨n, ho, ⟨b, rfl, hb, hb2⟩, hn, fun d ⟨b', r, e1, e2, hr⟩ => by
      have : b = b' := by
        unfold eNat at e1
        simp at e1
        omega
      subst this
      subst e2
      exact f r hr⟩)) hpl) nm hx (by rw [List.all_cons, hpl] <;> rfl)
def Pre_of (ds : List PyData) : Prop := ∃ gs : List PyData, ds = [.list gs] ∧ 1 ≤ gs.length ∧ gs.length ≤ 1000
def R_of (ds : List PyData) (d : PyData) : Prop := ∃ gs : List PyData, ds = [.list gs] ∧ d ∈ gs
theorem ok_law_of {f : Addr} {fd : FuncData} {x : Str} (B : Bt mg) (F : Fun K x x s_law_of f fd) (H : HTake P w K mg base) : FnOk P w K mg base CX0 2 f fd ["_law_tin", "_law_goods_so"] (PT 1 Pre_of R_of) := by
  refine fn_tin F sc_law_of (fun ds ⟨b, e, _⟩ => by rw [e]; rfl) fun X T t n ds C ⟨gs, e, b1, b2⟩ hn => ?_
  subst e
  refine w_ret (x_ix (e_var C 1 rfl) (.inr rfl) (x_take C H (Nat.le_refl _) 0 rfl (x_of (e_len C B (e_var C 1 rfl) (.inr rfl)) ⟨rfl, rfl⟩) rfl b1 b2 hn fun r hr => ⟨r, gs[r], rfl, List.getElem?_eq_getElem hr, _, n + 1, rfl, Nat.le_refl _, gs, rfl, List.getElem_mem hr⟩))
/-! ### pick -/
theorem w_pair {k : Nat} {N : List Str} {sc own : Scope} {X : Cx} {T : Dom} {ps : List Own} {ρ : List (Option PyData)} {os : List OD} {pos : Pos} {Ω : Res → Prop} {Φo : OD → List OD → Prop} (C : At P w K mg base k N sc own X) (i j : Nat) {x y : Str} {a : Expr} {px py pt pt2 lp : Pos} {kt k2 : Nat} {rest : List Stmt} (h : XF X T ps ρ os a Φo)
    (hr : ∀ p q o os1, Φo o os1 → XB X T ((j, q) :: (i, p) :: ps) ((ρ.set i none).set j none) (.lst [] :: o :: os1) rest (Drop (Drop Ω))) (h1 : offs ps i = true := by rfl) (h2 : offs ps j = true := by rfl) (hij : i ≠ j := by decide) (hl : i < ρ.length := by exact Nat.le_of_ble_eq_true rfl) (hl2 : j < ρ.length := by exact Nat.le_of_ble_eq_true rfl)
    (hw : ∀ env : Env, env.scope = sc → swappedStores [.Tuple [.Name x px, .Name y py] kt pt] (.Tuple [a, .List [] lp] k2 pt2) env = pure (some [x, y]) := by intro env h; cases env; subst h; rfl)
    (hi : N[i]? = some x := by decide +kernel) (hj : N[j]? = some y := by decide +kernel) (hx : sc.names.lookup x = some .local := by decide +kernel) (hy : sc.names.lookup y = some .local := by decide +kernel)
    (hs : swapsWithSole [.Tuple [.Name x px, .Name y py] kt pt] (.Tuple [a, .List [] lp] k2 pt2) pos.line X.env = pure false := by rfl) (hp : plainE a = true := by rfl) :
    XB X T ps ρ os (.Assign [.Tuple [.Name x px, .Name y py] kt pt] (.Tuple [a, .List [] lp] k2 pt2) pos :: rest) Ω := fun σ H D s r n =>
  wss_cons (to_ws (ps_par C.calm (by rw [C.eN]; exact C.nd) (by rw [C.eN]; exact hi) (by rw [C.eN]; exact hj) hij (by rw [C.esc]; exact hx) (by rw [C.esc]; exact hy) (pa_cons pe_we (pa_cons (pe_lst pa_nil) pa_nil (star_plain rfl)) (star_plain hp)) (hw X.env C.esc) hs)
    (h σ H _ s fun p H1 u o os1 f nt e1 s1 np hu => ⟨Nat.zero_le _, fun q nq => ⟨.ref p, .ref q, rfl, by
      have s2 := s1.with np hu nt (offs.ok h1) hl
      have s3 := s2.with nq (u := .lst []) (o := .lst []) (i := j) ⟨[], rfl, .nil⟩ id (fun z hz => by
        rcases List.mem_cons.mp hz with e | hz
        · subst e; exact hij
        · exact offs.ok h2 z hz) (by rw [List.length_set]; exact hl2)
      refine hr p q o os1 f _ _ D s3 (fun d2 os2 f2 v2 σ2 H2 ρ2 e2 s4 hv => ?_) fun ρ2 os2 f2 σ2 H2 e2 s4 => ?_
      · match os2, f2 with
        | _ :: _ :: os2, f2 => exact r d2 os2 f2 v2 σ2 H2 ρ2 (e1.trans (exo_drop (q := (i, p)) np (exo_drop (q := (j, q)) nq e2))) s4.drop.drop hv
        | [_], f2 => exact f2.elim
        | [], f2 => exact f2.elim
      · match os2, f2 with
        | _ :: _ :: os2, f2 => exact n ρ2 os2 f2 σ2 H2 (e1.trans (exo_drop (q := (i, p)) np (exo_drop (q := (j, q)) nq e2))) s4.drop.drop
        | [_], f2 => exact f2.elim
        | [], f2 => exact f2.elim⟩⟩))
def Pre_pick (ds : List PyData) : Prop := ∃ (gs : List PyData) (x : PyData) (k : Nat), ds = [x, eNat k] ∧ (x = .tuple gs ∨ x = .list gs) ∧ gs.length ≤ 20
def R_pick (ds : List PyData) (d : PyData) : Prop := ∃ (gs : List PyData) (x : PyData) (k : Nat) (ls rest : List PyData), ds = [x, eNat k] ∧ (x = .tuple gs ∨ x = .list gs) ∧ d = .list ls ∧ ls.length = min k gs.length ∧ (ls ++ rest).Perm gs
theorem perm_erase {α : Type} {l : List α} {i : Nat} {x : α} (h : l[i]? = some x) : (x :: l.eraseIdx i).Perm l := by
  induction l generalizing i with
  | nil => simp at h
  | cons a l ih =>
    cases i with
    | zero =>
      cases (Option.some.inj h)
      exact .refl _
    | succ i =>
      rw [List.eraseIdx_cons_succ]
      exact (List.Perm.swap a x _).trans ((ih (by simpa using h)).cons a)
theorem ok_law_pick {f : Addr} {fd : FuncData} {x : Str} (B : Bt mg) (F : Fun K x x s_law_pick f fd) (H : HTake P w K mg base) : FnOk P w K mg base CX0 2 f fd ["_law_tin", "_law_goods_so", "_law_count_so"] (PT 20 Pre_pick R_pick) := by
  refine fn_tin F sc_law_pick (fun ds ⟨gs, x, k, e, _⟩ => by rw [e]; rfl) fun X T t n ds C ⟨gs, y, k, e, hy, hg⟩ hn => ?_
  subst e
  refine w_pair C 3 4 (Φo := fun o os1 => o = .lst gs ∧ os1 = [.tin n]) (xf_list C B (e_var C 1 rfl) hy ⟨rfl, rfl⟩) fun p q o os1 ⟨eo, e1⟩ => ?_
  subst eo e1
  have hmin : min (k : Int) (gs.length : Int) = ((min k gs.length : Nat) : Int) := by omega
  refine w_for C (ΦA := fun xs os1 => xs = upTo (min k gs.length) ∧ os1 = [.lst [], .lst gs, .tin n]) (fun xs i ρi osi => xs = upTo (min k gs.length) ∧ (∃ u, ρi = [none, some y, some (eNat k), none, none, u]) ∧ ∃ fl pl m, osi = [.lst fl, .lst pl, .tin m] ∧ (fl ++ pl).Perm gs ∧ fl.length = i ∧ m = n + i) (i_range C B (x_ofF (d := .int ((min k gs.length : Nat) : Int)) ((e_min2 C B (e_int1 C B (e_var C 2 rfl)) (e_len C B (e_var C 3 rfl) (.inr rfl))).is (by rw [hmin])) rfl ⟨_, rfl, by omega, rfl, rfl⟩)) (fun xs os1 ⟨e1, e2⟩ => ⟨e1, ⟨none, rfl⟩, [], gs, n, e2, .refl _, rfl, rfl⟩) (fun xs i hlt ρi osi ⟨e1, ⟨u, e2⟩, fl, pl, m, e3, hp, hl, hm⟩ => ?_) fun xs ρe ose ⟨e1, ⟨u, e2⟩, fl, pl, m, e3, hp, hl, hm⟩ => ?_
  · subst e1 e2 e3
    have hi : i < min k gs.length := by simpa [upTo] using hlt
    have hx : (upTo (min k gs.length))[i]'hlt = .int (i : Int) := Option.some.inj ((List.getElem?_eq_getElem hlt).symm.trans (upTo_at hi))
    rw [hx]
    have hlen := hp.length_eq
    rw [List.length_append] at hlen
    refine ⟨_, _, tg_name C 5, rfl, ?_⟩
    refine w_append C 0 rfl rfl (x_pop C 1 rfl rfl (x_take C H (by decide) 2 rfl (b := pl.length) (x_ofF (e_len C B (e_var C 3 rfl) (.inr rfl)) rfl ⟨rfl, rfl⟩) rfl (by omega) (by omega) (by omega) fun r hr => ⟨pl, r, pl[r], rfl, rfl, by omega, List.getElem?_eq_getElem hr, fl, rfl, by omega, w_nil ⟨rfl, ⟨_, rfl⟩, fl ++ [pl[r]], pl.eraseIdx r, m + 1, rfl, ?_, ?_, by omega⟩⟩))
    · rw [List.append_assoc]
      exact ((perm_erase (List.getElem?_eq_getElem hr)).append_left fl).trans hp
    · rw [List.length_append, hl] <;> rfl
  · subst e1 e2 e3
    refine w_retF (d := .list fl) (e_var C 4 rfl) ⟨_, m, rfl, ?_, gs, y, k, fl, pl, rfl, hy, rfl, ?_, hp⟩
    · rw [upTo_length] at hl hm
      omega
    · rw [hl, upTo_length]
end
end Sk
set_option maxHeartbeats 8000000
/-! Sk14: loop, wires. -/
namespace Sk
open PySem PySem.Spec PyProof.Rows L2 PySem.W
def sBell : Str := "bell"
/-- a ring as it is drawn -/
structure RingOk (r : Ring) (panel nf : Nat) : Prop where
  panel : r.1 = (panel : Int)
  len : r.2.length ≤ 8
  pieces : ∀ p ∈ r.2, PyData.strOk p.1 = true ∧ p.2.length ≤ 1
  feel : (r.2.filter fun p => decide (p.1 = sFeel)).length = nf
def restP : List Piece := [cutP, (sBell, [0]), cutP]
theorem rest_feel (j : Nat) : ((restP.take j).filter fun p => decide (p.1 = sFeel)) = [] := by
  match j with
  | 0 => rfl
  | 1 => decide +kernel
  | 2 => decide +kernel
  | n + 3 =>
    rw [List.take_of_length_le (by show 3 ≤ n + 3; omega)]
    decide +kernel
theorem rest_ok : ∀ p ∈ restP, PyData.strOk p.1 = true ∧ p.2.length ≤ 1 := by decide +kernel
theorem feel_ok : PyData.strOk sFeel = true := by decide +kernel
section
variable {P : Program} {w : World} {K : PySem.W.Frag} {mg : Str → Option Value} {base : Heap}
abbrev HPick (P : Program) (w : World) (K : PySem.W.Frag) (mg : Str → Option Value) (base : Heap) : Prop := Has P w K mg base 2 "_law_pick" ["_law_tin", "_law_goods_so", "_law_count_so"] (PT 20 Pre_pick R_pick)
/-- pick(tin, goods, count), the goods of one kind -/
theorem x_pick {k : Nat} {N : List Str} {sc own : Scope} {X : Cx} {T : Dom} {ps : List Own} {ρ : List (Option PyData)} {os : List OD} {pos p p2 : Pos} {Φ : PyData → List OD → Prop} (C : At P w K mg base k N sc own X) (H : HPick P w K mg base) (hk : 2 ≤ k) (j : Nat) {i : Nat} {t : Addr} {e e2 : Expr} {α : Type} {en : α → PyData} {gs : List α} (hp : ps[j]? = some (i, t))
    (he : XA X T ps ρ os [e, e2] (fun ds os1 => ∃ x c n, ds = [x, eNat c] ∧ (x = .tuple (gs.map en) ∨ x = .list (gs.map en)) ∧ gs.length ≤ 20 ∧ os1[j]? = some (.tin n) ∧ n + 20 ≤ 2 ^ 60 ∧ ∀ ls rest : List α, ls.length = min c gs.length → (ls ++ rest).Perm gs → Φ (.list (ls.map en)) (os1.set j (.tin (n + 20)))))
    (inj : ∀ a b, en a = en b → a = b) (nm : nameOk N sc i "_law_tin" = true := by decide +kernel) (hx : globOk sc "_law_pick" = true := by decide +kernel) (hpl : [e, e2].all plainE = true := by rfl) :
    XE X T ps ρ os (.Call (.Name "_law_pick" p) [.Name "_law_tin" p2, e, e2] [] pos) Φ :=
  x_callT C H hk j hp (fun σ H Q s q => he σ H Q s fun vs H' ds os' ⟨x, c, n, ed, hx2, hl, ho, hn, f⟩ e1 s1 hv => q vs H' ds os' ⟨n, ho, ⟨gs.map en, x, c, ed, hx2, by rw [List.length_map]; exact hl⟩, hn, fun d ⟨gs', x', c', ls, rest, e1, e2, e3, e4, e5⟩ => by
    rw [ed] at e1
    simp only [List.cons.injEq, and_true] at e1
    obtain ⟨ex, ec⟩ := e1
    subst ex
    have hc : c = c' := by
      unfold eNat at ec
      simp at ec
      omega
    subst hc
    have hg : gs' = gs.map en := by
      rcases e2 with e2 | e2 <;> rcases hx2 with hx2 | hx2 <;> rw [e2] at hx2 <;> simp at hx2 <;> exact hx2
    subst hg
    obtain ⟨M, hM, eM⟩ := perm_image en e5 gs rfl
    have hlen : ls.length ≤ M.length := by
      have := congrArg List.length eM
      rw [List.length_append, List.length_map] at this
      omega
    have e6 : ls = (M.take ls.length).map en := by
      rw [List.map_take, ← eM, List.take_append_of_le_length (Nat.le_refl _), List.take_length]
    rw [List.length_map] at e4
    have := f (M.take ls.length) (M.drop ls.length) (by rw [List.length_take]; omega) (by rw [List.take_append_drop]; exact hM)
    rw [← e6] at this
    rw [e3]
    exact this⟩ e1 s1 hv) nm hx hpl
def Pre_loop (ds : List PyData) : Prop := ∃ panel nf : Nat, ds = [eNat panel, eNat nf] ∧ nf ≤ 4
def R_loop (ds : List PyData) (d : PyData) : Prop := ∃ (panel nf : Nat) (r : Ring), ds = [eNat panel, eNat nf] ∧ d = eRing r ∧ RingOk r panel nf
theorem ok_law_loop {f : Addr} {fd : FuncData} {x : Str} (B : Bt mg) (F : Fun K x x s_law_loop f fd) (H : HTake P w K mg base) (H2 : HPick P w K mg base) : FnOk P w K mg base CX0 3 f fd ["_law_tin", "_law_panel_so", "_law_feelers_so"] (PT 30 Pre_loop R_loop) := by
  refine fn_tin F sc_law_loop (fun ds ⟨_, _, e, _⟩ => by rw [e]; rfl) fun X T t n ds C ⟨panel, nf, e, hf⟩ hn => ?_
  subst e
  refine w_set C 3 (Ψ := fun d os1 => ∃ r, r < 3 ∧ d = .list ((restP.take (1 + r)).map ePiece) ∧ os1 = [.tin (n + 1)]) (x_takeL (ds := restP.map ePiece) ((e_list (ea_cons (e_tp (ea_cons e_str ea_nil)) (ea_cons (e_tp (ea_cons e_str (ea_cons e_int ea_nil))) (ea_cons (e_tp (ea_cons e_str ea_nil)) ea_nil))) (Nat.le_of_ble_eq_true rfl)).is rfl) (x_add (Ψ := fun d os1 => d = .int 1 ∧ os1 = [.tin n]) (x_of e_int ⟨rfl, rfl⟩) fun d os1 ⟨e1, e2⟩ => by
    subst e1 e2
    exact x_take C H (by decide) 0 rfl (b := 3) (x_of e_int ⟨rfl, rfl⟩) rfl (by decide) (by decide) (by omega) fun r hr => ⟨1, (r : Int), rfl, rfl, 1 + r, congrArg PyData.int (by omega), r, hr, by rw [List.map_take], rfl⟩)) fun d os1 ⟨r, hr, e1, e2⟩ => ?_
  subst e1 e2
  refine w_set C 4 (Ψ := fun d os1 => ∃ fs : List Piece, d = .list ((fs ++ restP.take (1 + r)).map ePiece) ∧ fs.length = nf ∧ (∀ p ∈ fs, p.1 = sFeel ∧ p.2.length = 1) ∧ os1 = [.tin (n + 1 + nf)]) (x_catL (Ψ := fun d os1 => ∃ fs : List Piece, d = .list (fs.map ePiece) ∧ fs.length = nf ∧ (∀ p ∈ fs, p.1 = sFeel ∧ p.2.length = 1) ∧ os1 = [.tin (n + 1 + nf)]) (x_lc C [("_law_k", 5)] (ΦA := fun xs os1 => xs = upTo nf ∧ os1 = [.tin (n + 1)]) (fun xs i acc osi => xs = upTo nf ∧ ∃ fs : List Piece, acc = fs.map ePiece ∧ fs.length = i ∧ (∀ p ∈ fs, p.1 = sFeel ∧ p.2.length = 1) ∧ osi = [.tin (n + 1 + i)]) (i_of (it_range C B (e_var C 2 rfl) (by omega)) ⟨rfl, rfl⟩) (fun xs os1 ⟨e1, e2⟩ => ⟨by rw [e1, upTo_length]; omega, e1, [], rfl, rfl, fun p hp => by simp at hp, e2⟩) (fun xs i hlt acc osi ⟨e1, fs, e2, e3, e4, e5⟩ => ?_) (fun xs acc ose ⟨e1, fs, e2, e3, e4, e5⟩ => ⟨fs, by rw [e2], by rw [e3, e1, upTo_length], e4, by rw [e5, e1, upTo_length]⟩)) fun d os1 ⟨fs, e1, e2, e3, e4⟩ => ?_) fun d os1 ⟨fs, e1, e2, e3, e4⟩ => ?_
  · subst e1 e2 e5
    have hi : i < nf := by simpa [upTo] using hlt
    have hx : (upTo nf)[i]'hlt = .int (i : Int) := Option.some.inj ((List.getElem?_eq_getElem hlt).symm.trans (upTo_at hi))
    rw [hx]
    refine ⟨_, _, by decide, fun X' T' C' => ⟨tg_name C' 5, x_tup (xa_cons (Φ := fun d os1 => d = .str sFeel ∧ os1 = [.tin (n + 1 + i)]) (x_of e_str ⟨rfl, rfl⟩) fun d os1 ⟨e1, e2⟩ => ?_)⟩⟩
    subst e1 e2
    refine xa_cons (Φ := fun d os1 => ∃ r : Nat, d = eNat r ∧ os1 = [.tin (n + 1 + i + 1)]) (x_take C' H (by decide) 0 rfl (b := 4) (x_of e_int ⟨rfl, rfl⟩) rfl (by decide) (by decide) (by omega) fun r hr => ⟨r, rfl, rfl⟩) fun d os1 ⟨v, e1, e2⟩ => xa_nil ?_
    subst e1 e2
    refine ⟨Nat.le_of_ble_eq_true rfl, rfl, fs ++ [(sFeel, [(v : Int)])], by rw [List.map_append] <;> rfl, by rw [List.length_append, e3] <;> rfl, fun p hp => ?_, rfl⟩
    rcases List.mem_append.mp hp with hp | hp
    · exact e4 p hp
    · rw [List.mem_singleton] at hp
      subst hp
      exact ⟨rfl, rfl⟩
  · subst e1 e4
    refine x_of (d := .list ((restP.take (1 + r)).map ePiece)) (e_var C 3 rfl) ⟨_, _, rfl, rfl, ?_, fs, by rw [List.map_append], e2, e3, rfl⟩
    rw [List.length_map, List.length_map, List.length_take]
    have : restP.length = 3 := rfl
    omega
  · subst e1 e4
    have l3 : (restP.take (1 + r)).length ≤ 3 := by rw [List.length_take]; exact Nat.min_le_right _ _
    have ll : (fs ++ restP.take (1 + r)).length ≤ 7 := by rw [List.length_append]; omega
    refine w_ret (x_tup (xa_cons (Φ := fun d os1 => d = eNat panel ∧ os1 = [.tin (n + 1 + nf)]) (x_of (e_var C 1 rfl) ⟨rfl, rfl⟩) fun d os1 ⟨e1, e4⟩ => ?_))
    subst e1 e4
    refine xa_cons (Φ := fun d os1 => ∃ ls : List Piece, d = .tuple (ls.map ePiece) ∧ ls.Perm (fs ++ restP.take (1 + r)) ∧ os1 = [.tin (n + 1 + nf + 20)]) (x_tuple C B (x_pick C H2 (by decide) 0 rfl (gs := fs ++ restP.take (1 + r)) (en := ePiece) (xa_of (ea_cons (e_var C 4 rfl) (ea_cons ((e_len C B (e_var C 4 rfl) (.inr rfl)).is (c := eNat (fs ++ restP.take (1 + r)).length) (by rw [List.length_map] <;> rfl)) ea_nil)) ⟨_, _, n + 1 + nf, rfl, .inr rfl, by omega, rfl, by omega, fun ls rest hl hp => ⟨_, rfl, ls, rfl, ?_, rfl⟩⟩) ePiece_inj)) fun d os1 ⟨ls, e1, e4, e5⟩ => xa_nil ?_
    · rw [Nat.min_self] at hl
      have h1 := hp.length_eq
      rw [List.length_append] at h1
      have h2 : rest = [] := List.length_eq_zero_iff.mp (by omega)
      rw [h2, List.append_nil] at hp
      exact hp
    · subst e1 e5
      refine ⟨Nat.le_of_ble_eq_true rfl, eRing ((panel : Int), ls), n + 1 + nf + 20, rfl, by omega, panel, nf, _, rfl, rfl, ⟨rfl, by rw [e4.length_eq]; omega, fun p hp => ?_, ?_⟩⟩
      · rcases List.mem_append.mp (e4.mem_iff.mp hp) with hp | hp
        · obtain ⟨h1, h2⟩ := e3 p hp
          rw [h1]
          exact ⟨feel_ok, by omega⟩
        · exact rest_ok p (List.mem_of_mem_take hp)
      · rw [(e4.filter _).length_eq, List.filter_append, rest_feel, List.append_nil, List.filter_eq_self.mpr fun p hp => decide_eq_true (e3 p hp).1]
        exact e2
end
end Sk
set_option maxHeartbeats 8000000
/-! Sk15: wires, zone. -/
namespace Sk
open PySem PySem.Spec PyProof.Rows L2 PySem.W
def WiresOk (pn : Nat) (rings : List Ring) : Prop :=
  (pn = 1 ∧ ∃ r nf, rings = [r] ∧ RingOk r 0 nf ∧ 3 ≤ nf ∧ nf ≤ 4) ∨ (∃ r0 r1 nf, rings = [r0, r1] ∧ RingOk r0 0 nf ∧ 2 ≤ nf ∧ nf ≤ 3 ∧ RingOk r1 (pn - 1) 2)
section
variable {P : Program} {w : World} {K : PySem.W.Frag} {mg : Str → Option Value} {base : Heap}
abbrev HLoop (P : Program) (w : World) (K : PySem.W.Frag) (mg : Str → Option Value) (base : Heap) : Prop := Has P w K mg base 3 "_law_loop" ["_law_tin", "_law_panel_so", "_law_feelers_so"] (PT 30 Pre_loop R_loop)
theorem eNat_inj {a b : Nat} (h : eNat a = eNat b) : a = b := by
  unfold eNat at h
  simp at h
  omega
theorem x_loop {k : Nat} {N : List Str} {sc own : Scope} {X : Cx} {T : Dom} {ps : List Own} {ρ : List (Option PyData)} {os : List OD} {pos p p2 : Pos} {Φ : PyData → List OD → Prop} (C : At P w K mg base k N sc own X) (H : HLoop P w K mg base) (hk : 3 ≤ k) (j : Nat) {i : Nat} {t : Addr} {e e2 : Expr} (hp : ps[j]? = some (i, t))
    (he : XA X T ps ρ os [e, e2] (fun ds os1 => ∃ pl nf n : Nat, ds = [eNat pl, eNat nf] ∧ nf ≤ 4 ∧ os1[j]? = some (.tin n) ∧ n + 30 ≤ 2 ^ 60 ∧ ∀ r : Ring, RingOk r pl nf → Φ (eRing r) (os1.set j (.tin (n + 30)))))
    (nm : nameOk N sc i "_law_tin" = true := by decide +kernel) (hx : globOk sc "_law_loop" = true := by decide +kernel) (hpl : [e, e2].all plainE = true := by rfl) :
    XE X T ps ρ os (.Call (.Name "_law_loop" p) [.Name "_law_tin" p2, e, e2] [] pos) Φ :=
  x_callT C H hk j hp (fun σ H Q s q => he σ H Q s fun vs H' ds os' ⟨pl, nf, n, ed, hl, ho, hn, f⟩ e1 s1 hv => q vs H' ds os' ⟨n, ho, ⟨pl, nf, ed, hl⟩, hn, fun d ⟨pl', nf', r, e1, e2, e3⟩ => by
    rw [ed] at e1
    simp only [List.cons.injEq, and_true] at e1
    have h1 := eNat_inj e1.1
    have h2 := eNat_inj e1.2
    subst h1 h2 e2
    exact f r e3⟩ e1 s1 hv) nm hx hpl
def Pre_wires (ds : List PyData) : Prop := ∃ pn : Nat, ds = [eNat pn] ∧ 1 ≤ pn ∧ pn ≤ 2
def R_wires (ds : List PyData) (d : PyData) : Prop := ∃ (pn : Nat) (rings : List Ring), ds = [eNat pn] ∧ d = .tuple (rings.map eRing) ∧ WiresOk pn rings
theorem ok_law_wires {f : Addr} {fd : FuncData} {x : Str} (B : Bt mg) (F : Fun K x x s_law_wires f fd) (H : HTake P w K mg base) (H2 : HLoop P w K mg base) : FnOk P w K mg base CX0 4 f fd ["_law_tin", "_law_panels_so"] (PT 70 Pre_wires R_wires) := by
  refine fn_tin F sc_law_wires (fun ds ⟨_, e, _⟩ => by rw [e]; rfl) fun X T t n ds C ⟨pn, e, p1, p2⟩ hn => ?_
  subst e
  refine w_if (ΦT := fun z os1 => ∃ m, os1 = [.tin m] ∧ m ≤ n + 1 ∧ (z = true → pn = 1)) (t_and (x := decide (pn = 1)) (et_cmp ((c_eqI (e_var C 1 rfl) e_int).is ?_)) (fun h => ⟨n, rfl, by omega, fun z => by cases z⟩) fun h => t_cmpI op_eqI e_int (x_take C H (by decide) 0 rfl (b := 2) (x_of e_int ⟨rfl, rfl⟩) rfl (by decide) (by decide) (by omega) fun r hr => ⟨(r : Int), rfl, n + 1, rfl, Nat.le_refl _, fun _ => of_decide_eq_true h⟩)) fun z os1 ⟨m, eo, hm, hz⟩ => ?_
  · rw [Bool.eq_iff_iff, decide_eq_true_iff, decide_eq_true_iff]
    omega
  subst eo
  have arg : ∀ (m a : Nat) (e : Expr), m ≤ n + 40 → True := fun _ _ _ _ => trivial
  cases z with
  | true =>
    have hp := hz rfl
    rw [if_pos rfl]
    refine w_ret (x_tup (xa_cons (Φ := fun d os1 => ∃ r nf, d = eRing r ∧ RingOk r 0 nf ∧ 3 ≤ nf ∧ nf ≤ 4 ∧ os1 = [.tin (m + 1 + 30)]) (x_loop C H2 (Nat.le_refl _) 0 rfl (xa_cons (Φ := fun d os1 => d = eNat 0 ∧ os1 = [.tin m]) (x_of e_int ⟨rfl, rfl⟩) fun d os1 ⟨e1, e2⟩ => ?_)) fun d os1 ⟨r, nf, e1, e2, e3, e4, e5⟩ => xa_nil ?_))
    · subst e1 e2
      refine xa_cons (Φ := fun d os1 => ∃ v, v < 2 ∧ d = eNat (3 + v) ∧ os1 = [.tin (m + 1)]) (x_add (Ψ := fun d os1 => d = .int 3 ∧ os1 = [.tin m]) (x_of e_int ⟨rfl, rfl⟩) fun d os1 ⟨e1, e2⟩ => by
        subst e1 e2
        exact x_take C H (by decide) 0 rfl (b := 2) (x_of e_int ⟨rfl, rfl⟩) rfl (by decide) (by decide) (by omega) fun r hr => ⟨3, (r : Int), rfl, rfl, r, hr, congrArg PyData.int (by omega), rfl⟩) fun d os1 ⟨v, hv, e1, e2⟩ => xa_nil ?_
      subst e1 e2
      exact ⟨0, 3 + v, m + 1, rfl, by omega, rfl, by omega, fun r hr => ⟨r, 3 + v, rfl, hr, by omega, by omega, rfl⟩⟩
    · subst e1 e5
      exact ⟨Nat.le_of_ble_eq_true rfl, _, m + 1 + 30, rfl, by omega, pn, [r], rfl, rfl, .inl ⟨hp, r, nf, rfl, e2, e3, e4⟩⟩
  | false =>
    rw [if_neg Bool.false_ne_true]
    refine w_else (w_ret (x_tup (xa_cons (Φ := fun d os1 => ∃ r nf, d = eRing r ∧ RingOk r 0 nf ∧ 2 ≤ nf ∧ nf ≤ 3 ∧ os1 = [.tin (m + 1 + 30)]) (x_loop C H2 (Nat.le_refl _) 0 rfl (xa_cons (Φ := fun d os1 => d = eNat 0 ∧ os1 = [.tin m]) (x_of e_int ⟨rfl, rfl⟩) fun d os1 ⟨e1, e2⟩ => ?_)) fun d os1 ⟨r, nf, e1, e2, e3, e4, e5⟩ => ?_)))
    · subst e1 e2
      refine xa_cons (Φ := fun d os1 => ∃ v, v < 2 ∧ d = eNat (2 + v) ∧ os1 = [.tin (m + 1)]) (x_add (Ψ := fun d os1 => d = .int 2 ∧ os1 = [.tin m]) (x_of e_int ⟨rfl, rfl⟩) fun d os1 ⟨e1, e2⟩ => by
        subst e1 e2
        exact x_take C H (by decide) 0 rfl (b := 2) (x_of e_int ⟨rfl, rfl⟩) rfl (by decide) (by decide) (by omega) fun r hr => ⟨2, (r : Int), rfl, rfl, r, hr, congrArg PyData.int (by omega), rfl⟩) fun d os1 ⟨v, hv, e1, e2⟩ => xa_nil ?_
      subst e1 e2
      exact ⟨0, 2 + v, m + 1, rfl, by omega, rfl, by omega, fun r hr => ⟨r, 2 + v, rfl, hr, by omega, by omega, rfl⟩⟩
    · subst e1 e5
      refine xa_cons (Φ := fun d os1 => ∃ r1, d = eRing r1 ∧ RingOk r1 (pn - 1) 2 ∧ os1 = [.tin (m + 1 + 30 + 30)]) (x_loop C H2 (Nat.le_refl _) 0 rfl (xa_of (ea_cons ((e_sub (e_var C 1 rfl) e_int).is (c := eNat (pn - 1)) (congrArg PyData.int (by omega))) (ea_cons e_int ea_nil)) ⟨pn - 1, 2, m + 1 + 30, rfl, by decide, rfl, by omega, fun r1 hr => ⟨r1, rfl, hr, rfl⟩⟩)) fun d os1 ⟨r1, f1, f2, f3⟩ => xa_nil ?_
      subst f1 f3
      exact ⟨Nat.le_of_ble_eq_true rfl, _, m + 1 + 30 + 30, rfl, by omega, pn, [r, r1], rfl, rfl, .inr ⟨r, r1, nf, rfl, e2, e3, e4, f2⟩⟩
/-! ### zone -/
def panelAt (rings : List Ring) (s : Spot) : Int := match rings[s.1.toNat]? with
  | some r => r.1
  | none => 0
def goodsOf (rings : List Ring) (pl : Int) : List Spot := (spotsOf rings sFeel).filter fun s => decide (panelAt rings s = pl)
theorem spotsOf_at {rings : List Ring} {w : Str} {s : Spot} (h : s ∈ spotsOf rings w) : ∃ (i : Nat) (r : Ring), s.1 = (i : Int) ∧ rings[i]? = some r := by
  obtain ⟨q, hq, h⟩ := List.mem_flatMap.mp h
  unfold spotsIn at h
  obtain ⟨y, hy, rfl⟩ := List.mem_map.mp h
  exact ⟨q.2, q.1, rfl, zip_at hq⟩
theorem goods_len {rings : List Ring} (W : Wires rings) (pl : Int) : (goodsOf rings pl).length ≤ 80 := by
  have := spots_bound W.few W.pieces sFeel (rings.zipIdx 0).length
  rw [List.take_length] at this
  exact Nat.le_trans (List.length_filter_le _ _) this
/-- a zone as it is drawn from the goods -/
def ZoneD (goods : List Spot) (z : Zone) : Prop := ∃ ls rest : List Spot, z.1 = dsort eSpot ls ∧ (ls ++ rest).Perm goods ∧ 2 ≤ ls.length ∧ ls.length ≤ 3 ∧ (z.2 = 1 ∨ z.2 = 2)
def Pre_zone (ds : List PyData) : Prop := ∃ (rings : List Ring) (pl : Nat), ds = [.tuple (rings.map eRing), eNat pl, .bool false] ∧ Wires rings ∧ 2 ≤ (goodsOf rings pl).length ∧ (goodsOf rings pl).length ≤ 20
def R_zone (ds : List PyData) (d : PyData) : Prop := ∃ (rings : List Ring) (pl : Nat) (z : Zone), ds = [.tuple (rings.map eRing), eNat pl, .bool false] ∧ d = eZone z ∧ ZoneD (goodsOf rings pl) z
/-- the feelers of a panel, as a comprehension -/
theorem ok_law_zone {f : Addr} {fd : FuncData} {x : Str} (B : Bt mg) (F : Fun K x x s_law_zone f fd) (H : HTake P w K mg base) (H2 : HPick P w K mg base) (H3 : Has P w K mg base 2 "_law_feelers" ["_law_wires_so"] (Pu R_lfeelers)) : FnOk P w K mg base CX0 3 f fd ["_law_tin", "_law_wires_so", "_law_panel_so", "_law_stays"] (PT 30 Pre_zone R_zone) := by
  refine fn_tin F sc_law_zone (fun ds ⟨_, _, e, _⟩ => by rw [e]; rfl) fun X T t n ds C ⟨rings, pl, e, W, g2, g20⟩ hn => ?_
  subst e
  have sb := spots_bound W.few W.pieces sFeel (rings.zipIdx 0).length
  rw [List.take_length] at sb
  refine w_lc C 4 [("_law_own", 7)] (ys := spotsOf rings sFeel) eSpot (fun s => decide (panelAt rings s = (pl : Int))) eSpot (it_list (e_call C H3 (by decide) (ea_cons (e_var C 1 rfl) ea_nil) ⟨rings, rfl, W, rfl⟩)) (fun s hs => ?_) (Nat.le_trans sb (by decide)) ?_
  · obtain ⟨i, r, e1, e2⟩ := spotsOf_at hs
    have e2' : (rings.map eRing)[i]? = some (eRing r) := by rw [List.getElem?_map, e2] <;> rfl
    have ep : panelAt rings s = r.1 := by
      unfold panelAt
      rw [e1, Int.toNat_natCast, e2]
    exact ⟨_, _, by decide, fun X' T' C' => ⟨tg_name C' 7, ets_one (et_cmp ((c_eqI (e_ix (j := 0) (e_ix (j := i) (e_var C' 1 rfl) (e_ix (j := 0) (e_var C' 7 rfl) e_int rfl rfl) e1 e2') e_int rfl rfl) (e_var C' 2 rfl)).is (by rw [← ep]))), fun _ => e_var C' 7 rfl⟩⟩
  refine w_set C 5 (Ψ := fun d os1 => ∃ ls rest : List Spot, d = .tuple ((dsort eSpot ls).map eSpot) ∧ (ls ++ rest).Perm (goodsOf rings pl) ∧ 2 ≤ ls.length ∧ ls.length ≤ 3 ∧ os1 = [.tin (n + 1 + 20)]) (x_tuple C B (x_sorted C B kind_spot (x_pick C H2 (by decide) 0 rfl (gs := goodsOf rings pl) (en := eSpot) (xa_cons (Φ := fun d os1 => d = .list ((goodsOf rings pl).map eSpot) ∧ os1 = [.tin n]) (x_of (e_var C 4 rfl) ⟨rfl, rfl⟩) fun d os1 ⟨e1, e2⟩ => ?_) eSpot_inj))) fun d os1 ⟨ls, rest, e1, e2, e3, e4, e5⟩ => ?_
  · subst e1 e2
    refine xa_cons (Φ := fun d os1 => ∃ v, v < 2 ∧ d = eNat (2 + v) ∧ os1 = [.tin (n + 1)]) (x_add (Ψ := fun d os1 => d = .int 2 ∧ os1 = [.tin n]) (x_of e_int ⟨rfl, rfl⟩) fun d os1 ⟨e1, e2⟩ => by
      subst e1 e2
      exact x_take C H (by decide) 0 rfl (b := 2) (x_of e_int ⟨rfl, rfl⟩) rfl (by decide) (by decide) (by omega) fun r hr => ⟨2, (r : Int), rfl, rfl, r, hr, congrArg PyData.int (by omega), rfl⟩) fun d os1 ⟨v, hv, e1, e2⟩ => xa_nil ?_
    subst e1 e2
    exact ⟨_, 2 + v, n + 1, rfl, .inr rfl, g20, rfl, by omega, fun ls rest hl hp => ⟨ls, rfl, sortable_spot _, _, rfl, ls, rest, rfl, hp, by omega, by omega, rfl⟩⟩
  · subst e1 e5
    refine w_set C 6 (Ψ := fun d os1 => d = .none ∧ os1 = [.tin (n + 1 + 20)]) (x_of (e_if (x := true) (EW.et (ew_or (x := true) (y := true) (ET.is (et_not (et_val (b := false) (e_var C 3 rfl))) rfl) fun h => by cases h)) (fun _ => e_none) fun h => by cases h) ⟨rfl, rfl⟩) fun d os1 ⟨e1, e5⟩ => ?_
    subst e1 e5
    have ld : (dsort eSpot ls).length = ls.length := dsort_len _ _
    refine w_ret (x_tup (xa_cons (Φ := fun d os1 => d = .tuple ((dsort eSpot ls).map eSpot) ∧ os1 = [.tin (n + 1 + 20)]) (x_of (e_var C 5 rfl) ⟨rfl, rfl⟩) fun d os1 ⟨e1, e5⟩ => ?_))
    subst e1 e5
    refine xa_cons (Φ := fun d os1 => ∃ v, v < 2 ∧ d = eNat (1 + v) ∧ os1 = [.tin (n + 1 + 20 + 1)]) (x_add (Ψ := fun d os1 => d = .int 1 ∧ os1 = [.tin (n + 1 + 20)]) (x_of e_int ⟨rfl, rfl⟩) fun d os1 ⟨e1, e5⟩ => ?_) fun d os1 ⟨v, hv, e1, e5⟩ => ?_
    · subst e1 e5
      exact x_take C H (by decide) 0 rfl (b := 2) (x_of ((e_min2 C B e_int (e_len C B (e_var C 5 rfl) (.inl rfl))).is (c := eNat 2) (congrArg PyData.int (by rw [List.length_map, ld]; omega))) ⟨rfl, rfl⟩) rfl (by decide) (by decide) (by omega) fun r hr => ⟨1, (r : Int), rfl, rfl, r, hr, congrArg PyData.int (by omega), rfl⟩
    · subst e1 e5
      refine xa_cons (Φ := fun d os1 => d = .none ∧ os1 = [.tin (n + 1 + 20 + 1)]) (x_of (e_var C 6 rfl) ⟨rfl, rfl⟩) fun d os1 ⟨e1, e5⟩ => xa_nil ?_
      subst e1 e5
      exact ⟨Nat.le_of_ble_eq_true rfl, _, n + 1 + 20 + 1, rfl, by omega, rings, pl, (dsort eSpot ls, ((1 + v : Nat) : Int)), rfl, rfl, ls, rest, rfl, e2, e3, e4, by show ((1 + v : Nat) : Int) = 1 ∨ ((1 + v : Nat) : Int) = 2; omega⟩
end
end Sk
set_option maxHeartbeats 8000000
/-! Sk16: line, abode. -/
namespace Sk
open PySem PySem.Spec PyProof.Rows L2 PySem.W
theorem kind_nat : Kind eNat := ⟨fun a b => kind_int.alike _ _, fun a => rfl, fun a b h => eNat_inj h, fun _ => rfl, fun _ => by simp [eNat, PyData.depth]⟩
theorem sortable_nat (l : List Nat) : Sortable (l.map eNat) := Sortable.others fun b => ⟨fun e => by simp [eNat] at e, fun xs e => by simp [eNat] at e⟩
theorem upTo_nat (n : Nat) : upTo n = (List.range n).map eNat := rfl
/-- a line as it is drawn -/
structure LineD (nz : Nat) (l : Line) : Prop where
  zs : ∃ ls rest : List Nat, l.zs = dsort eNat ls ∧ (ls ++ rest).Perm (List.range nz) ∧ 1 ≤ ls.length ∧ ls.length ≤ 2
  wait : 0 ≤ l.wait ∧ l.wait ≤ 4
  out : l.out = 0 ∨ l.out = 1
section
variable {P : Program} {w : World} {K : PySem.W.Frag} {mg : Str → Option Value} {base : Heap}
theorem e_listRange {k : Nat} {N : List Str} {sc own : Scope} {X : Cx} {T : Dom} {ρ : List (Option PyData)} {pos p p2 pos2 : Pos} (C : At P w K mg base k N sc own X) (B : Bt mg) {a : Expr} {n : Nat} (ha : E X T ρ a (.int (n : Int))) (hn : n ≤ 1000) (hx : globOk sc "list" = true := by decide +kernel) (hx2 : globOk sc "range" = true := by decide +kernel) (hp : plainE a = true := by rfl) :
    E X T ρ (.Call (.Name "list" p) [.Call (.Name "range" p2) [a] [] pos2] [] pos) (.list (upTo n)) := fun σ H Q ok q =>
  to_we (pe_listRg C.calm (C.gl hx) (by rw [C.emg]; exact B.list) (prg_1 (C.gl hx2) (by rw [C.emg]; exact B.range) pe_we (star_plain hp))) (ha σ H _ ok fun v H1 e1 hv => ⟨(n : Int), hv.int_inv, RgOk.of_le (by decide) (by omega) (by decide) (by omega), fun l nl => q _ _ (same_new2 e1 nl) (.lst (hid_new (ok.1.mono e1) nl) (by
    have e : rgV 0 (n : Int) = ((List.range n).map fun i => Int.ofNat i).map V.int := by
      unfold rgV
      rw [Int.sub_zero, Int.toNat_natCast, List.map_map]
      refine List.map_congr_left fun i _ => ?_
      show V.int (0 + (i : Int)) = V.int (Int.ofNat i)
      rw [Int.zero_add] <;> rfl
    have e2 : upTo n = ((List.range n).map fun i => Int.ofNat i).map PyData.int := by
      unfold upTo
      rw [List.map_map] <;> rfl
    rw [e, e2]
    exact Das.ints _))⟩)
abbrev HOf (P : Program) (w : World) (K : PySem.W.Frag) (mg : Str → Option Value) (base : Heap) : Prop := Has P w K mg base 2 "_law_of" ["_law_tin", "_law_goods_so"] (PT 1 Pre_of R_of)
/-- of(tin, goods) -/
theorem x_ofc {k : Nat} {N : List Str} {sc own : Scope} {X : Cx} {T : Dom} {ps : List Own} {ρ : List (Option PyData)} {os : List OD} {pos p p2 : Pos} {Φ : PyData → List OD → Prop} (C : At P w K mg base k N sc own X) (H : HOf P w K mg base) (hk : 2 ≤ k) (j : Nat) {i : Nat} {t : Addr} {e : Expr} (hp : ps[j]? = some (i, t)) {gs : List PyData} {n : Nat} (he : E X (HT T ps) ρ e (.list gs)) (ho : os[j]? = some (.tin n)) (hb : 1 ≤ gs.length) (hb2 : gs.length ≤ 1000) (hn : n + 1 ≤ 2 ^ 60)
    (f : ∀ d, d ∈ gs → Φ d (os.set j (.tin (n + 1)))) (nm : nameOk N sc i "_law_tin" = true := by decide +kernel) (hx : globOk sc "_law_of" = true := by decide +kernel) (hpl : plainE e = true := by rfl) :
    XE X T ps ρ os (.Call (.Name "_law_of" p) [.Name "_law_tin" p2, e] [] pos) Φ :=
  x_callT C H hk j hp (xa_of (ea_cons he ea_nil hpl) ⟨n, ho, ⟨gs, rfl, hb, hb2⟩, hn, fun d ⟨gs', e1, hd⟩ => by
    simp only [List.cons.injEq, PyData.list.injEq, and_true] at e1
    subst e1
    exact f d hd⟩) nm hx (by rw [List.all_cons, hpl] <;> rfl)
def Pre_line (ds : List PyData) : Prop := ∃ pn nz : Nat, ds = [eNat pn, eNat nz, .bool false] ∧ 1 ≤ pn ∧ pn ≤ 2 ∧ 2 ≤ nz ∧ nz ≤ 3
def R_line (ds : List PyData) (d : PyData) : Prop := ∃ (pn nz : Nat) (l : Line), ds = [eNat pn, eNat nz, .bool false] ∧ d = eLine l ∧ LineD nz l
theorem ok_law_line {f : Addr} {fd : FuncData} {x : Str} (B : Bt mg) (F : Fun K x x s_law_line f fd) (H : HTake P w K mg base) (H2 : HPick P w K mg base) (H3 : HOf P w K mg base) : FnOk P w K mg base CX0 3 f fd ["_law_tin", "_law_panels_so", "_law_zones_so", "_law_bars"] (PT 30 Pre_line R_line) := by
  refine fn_tin F sc_law_line (fun ds ⟨_, _, e, _⟩ => by rw [e]; rfl) fun X T t n ds C ⟨pn, nz, e, p1, p2, z1, z2⟩ hn => ?_
  subst e
  have lr : (List.range nz).length = nz := List.length_range
  refine w_set C 4 (Ψ := fun d os1 => ∃ ls rest : List Nat, d = .tuple ((dsort eNat ls).map eNat) ∧ (ls ++ rest).Perm (List.range nz) ∧ 1 ≤ ls.length ∧ ls.length ≤ 2 ∧ os1 = [.tin (n + 1 + 20)]) (x_tuple C B (x_sorted C B kind_nat (x_pick C H2 (by decide) 0 rfl (gs := List.range nz) (en := eNat) (xa_cons (Φ := fun d os1 => d = .list ((List.range nz).map eNat) ∧ os1 = [.tin n]) (x_of (e_listRange C B (e_var C 2 rfl) (by omega)) ⟨rfl, rfl⟩) fun d os1 ⟨e1, e2⟩ => ?_) fun a b h => eNat_inj h))) fun d os1 ⟨ls, rest, e1, e2, e3, e4, e5⟩ => ?_
  · subst e1 e2
    refine xa_cons (Φ := fun d os1 => ∃ v, v < 2 ∧ d = eNat (1 + v) ∧ os1 = [.tin (n + 1)]) (x_add (Ψ := fun d os1 => d = .int 1 ∧ os1 = [.tin n]) (x_of e_int ⟨rfl, rfl⟩) fun d os1 ⟨e1, e2⟩ => by
      subst e1 e2
      exact x_take C H (by decide) 0 rfl (b := 2) (x_of e_int ⟨rfl, rfl⟩) rfl (by decide) (by decide) (by omega) fun r hr => ⟨1, (r : Int), rfl, rfl, r, hr, congrArg PyData.int (by omega), rfl⟩) fun d os1 ⟨v, hv, e1, e2⟩ => xa_nil ?_
    subst e1 e2
    exact ⟨_, 1 + v, n + 1, rfl, .inr rfl, by omega, rfl, by omega, fun ls rest hl hp => ⟨ls, rfl, sortable_nat _, _, rfl, ls, rest, rfl, hp, by omega, by omega, rfl⟩⟩
  · subst e1 e5
    refine w_set C 5 (Ψ := fun d os1 => d = .tuple [] ∧ os1 = [.tin (n + 1 + 20)]) (x_of (e_tp ea_nil) ⟨rfl, rfl⟩) fun d os1 ⟨e1, e5⟩ => ?_
    subst e1 e5
    refine w_ifF (EW.et (ew_and (x := false) (y := false) (et_val (e_var C 3 rfl)) fun h => by cases h)) (w_ret (x_tup ?_))
    refine xa_cons (Φ := fun d os1 => ∃ v : Nat, d = eNat v ∧ os1 = [.tin (n + 1 + 20 + 1)]) (x_take C H (by decide) 0 rfl (b := pn) (x_of (e_var C 1 rfl) ⟨rfl, rfl⟩) rfl p1 (by omega) (by omega) fun r hr => ⟨r, rfl, rfl⟩) fun d os1 ⟨pa, e1, e5⟩ => ?_
    subst e1 e5
    refine xa_cons (Φ := fun d os1 => ∃ b : Bool, d = .str (if b then sAny else sAll) ∧ os1 = [.tin (n + 1 + 20 + 1 + 1)]) (x_ofc C H3 (by decide) 0 rfl (gs := [.str sAny, .str sAll]) (e_list (ea_cons e_str (ea_cons e_str ea_nil)) (Nat.le_of_ble_eq_true rfl)) rfl (Nat.le_of_ble_eq_true rfl) (Nat.le_of_ble_eq_true rfl) (by omega) fun d hd => ?_) fun d os1 ⟨b, e1, e5⟩ => ?_
    · rcases List.mem_cons.mp hd with hd | hd
      · exact ⟨true, hd, rfl⟩
      · exact ⟨false, List.mem_singleton.mp hd, rfl⟩
    subst e1 e5
    refine xa_cons (Φ := fun d os1 => d = .tuple ((dsort eNat ls).map eNat) ∧ os1 = [.tin (n + 1 + 20 + 1 + 1)]) (x_of (e_var C 4 rfl) ⟨rfl, rfl⟩) fun d os1 ⟨e1, e5⟩ => ?_
    subst e1 e5
    refine xa_cons (Φ := fun d os1 => ∃ wt : Int, d = .int wt ∧ 0 ≤ wt ∧ wt ≤ 4 ∧ os1 = [.tin (n + 1 + 20 + 1 + 1 + 1)]) (x_ofc C H3 (by decide) 0 rfl (gs := [.int 0, .int 1, .int 2, .int 3, .int 4]) (e_list (ea_cons e_int (ea_cons e_int (ea_cons e_int (ea_cons e_int (ea_cons e_int ea_nil))))) (Nat.le_of_ble_eq_true rfl)) rfl (Nat.le_of_ble_eq_true rfl) (Nat.le_of_ble_eq_true rfl) (by omega) fun d hd => ?_) fun d os1 ⟨wt, e1, w0, w4, e5⟩ => ?_
    · simp only [List.mem_cons, List.not_mem_nil, or_false] at hd
      rcases hd with hd | hd | hd | hd | hd <;> exact ⟨_, hd, by decide, by decide, rfl⟩
    subst e1 e5
    refine xa_cons (Φ := fun d os1 => d = .tuple [] ∧ os1 = [.tin (n + 1 + 20 + 1 + 1 + 1)]) (x_of (e_var C 5 rfl) ⟨rfl, rfl⟩) fun d os1 ⟨e1, e5⟩ => ?_
    subst e1 e5
    refine xa_cons (Φ := fun d os1 => ∃ v : Nat, v < 2 ∧ d = eNat v ∧ os1 = [.tin (n + 1 + 20 + 1 + 1 + 1 + 1)]) (x_take C H (by decide) 0 rfl (b := 2) (x_of e_int ⟨rfl, rfl⟩) rfl (by decide) (by decide) (by omega) fun r hr => ⟨r, hr, rfl, rfl⟩) fun d os1 ⟨o, ho, e1, e5⟩ => ?_
    subst e1 e5
    refine xa_cons (Φ := fun d os1 => ∃ v : Int, d = .int v ∧ os1 = [.tin (n + 1 + 20 + 1 + 1 + 1 + 1 + 1)]) (x_ofc C H3 (by decide) 0 rfl (gs := [.int 0, .int 2, .int 3]) (e_list (ea_cons e_int (ea_cons e_int (ea_cons e_int ea_nil))) (Nat.le_of_ble_eq_true rfl)) rfl (Nat.le_of_ble_eq_true rfl) (Nat.le_of_ble_eq_true rfl) (by omega) fun d hd => ?_) fun d os1 ⟨xx, e1, e5⟩ => ?_
    · simp only [List.mem_cons, List.not_mem_nil, or_false] at hd
      rcases hd with hd | hd | hd <;> exact ⟨_, hd, rfl⟩
    subst e1 e5
    refine xa_cons (Φ := fun d os1 => ∃ v : Nat, d = eNat v ∧ os1 = [.tin (n + 1 + 20 + 1 + 1 + 1 + 1 + 1 + 1)]) (x_take C H (by decide) 0 rfl (b := 2) (x_of e_int ⟨rfl, rfl⟩) rfl (by decide) (by decide) (by omega) fun r hr => ⟨r, rfl, rfl⟩) fun d os1 ⟨yy, e1, e5⟩ => xa_nil ?_
    subst e1 e5
    refine ⟨Nat.le_of_ble_eq_true rfl, _, n + 1 + 20 + 1 + 1 + 1 + 1 + 1 + 1, rfl, by omega, pn, nz, ⟨(pa : Int), b, dsort eNat ls, wt, (o : Int), xx, (yy : Int)⟩, rfl, rfl, ⟨⟨ls, rest, rfl, e2, e3, e4⟩, ⟨w0, w4⟩, ?_⟩⟩
    show (o : Int) = 0 ∨ (o : Int) = 1
    omega
end
end Sk
set_option maxHeartbeats 8000000
/-! Sk17: abode, begun; what a drawn house is. -/
namespace Sk
open PySem PySem.Spec PyProof.Rows L2 PySem.W
/-! ### feelers counted -/
theorem zip_filter {α : Type} (p : α → Bool) : ∀ (l : List α) (n : Nat), ((l.zipIdx n).filter fun q => p q.1).length = (l.filter p).length
  | [], _ => rfl
  | a :: l, n => by
    rw [List.zipIdx_cons, List.filter_cons, List.filter_cons]
    split
    · rw [List.length_cons, List.length_cons, zip_filter p l]
    · exact zip_filter p l (n + 1)
theorem spotsIn_count (w : Str) (r : List Piece) (i : Nat) : (spotsIn w r i).length = (r.filter fun p => decide (p.1 = w)).length := by
  unfold spotsIn
  rw [List.length_map]
  exact zip_filter (fun p : Piece => decide (p.1 = w)) r 0
theorem spotsIn_fst {w : Str} {r : List Piece} {i : Nat} {s : Spot} (h : s ∈ spotsIn w r i) : s.1 = (i : Int) := by
  unfold spotsIn at h
  obtain ⟨q, _, rfl⟩ := List.mem_map.mp h
  rfl
theorem zipIdx_nodup {α : Type} : ∀ (l : List α) (n : Nat), ((l.zipIdx n).map (·.2)).Nodup
  | [], _ => List.nodup_nil
  | a :: l, n => by
    rw [List.zipIdx_cons, List.map_cons, List.nodup_cons]
    refine ⟨fun h => ?_, zipIdx_nodup l (n + 1)⟩
    obtain ⟨q, hq, e⟩ := List.mem_map.mp h
    have := List.mem_zipIdx hq
    simp at e
    omega
theorem spotsIn_nodup (w : Str) (r : List Piece) (i : Nat) : (spotsIn w r i).Nodup := by
  have h0 : ((r.zipIdx 0).map (·.2)).Nodup := zipIdx_nodup r 0
  have h1 : (((r.zipIdx 0).filter fun q => decide (q.1.1 = w)).map (·.2)).Nodup := h0.sublist (List.filter_sublist.map _)
  unfold spotsIn
  have e : (((r.zipIdx 0).filter fun q => decide (q.1.1 = w)).map fun q => ((i : Int), (q.2 : Int))) = (((r.zipIdx 0).filter fun q => decide (q.1.1 = w)).map (·.2)).map fun (n : Nat) => ((i : Int), (n : Int)) := by
    rw [List.map_map] <;> rfl
  rw [e]
  refine List.Pairwise.map (R := fun a b => a ≠ b) _ (fun a b hab z => hab ?_) h1
  have := (Prod.ext_iff.mp z).2
  simp only at this
  omega
theorem spots1 (r : Ring) (w : Str) : spotsOf [r] w = spotsIn w r.2 0 := by
  show spotsIn w r.2 0 ++ [] = _
  rw [List.append_nil]
theorem spots2 (r0 r1 : Ring) (w : Str) : spotsOf [r0, r1] w = spotsIn w r0.2 0 ++ spotsIn w r1.2 1 := by
  show spotsIn w r0.2 0 ++ (spotsIn w r1.2 1 ++ []) = _
  rw [List.append_nil]
theorem WiresOk.wires {pn : Nat} {rings : List Ring} (h : WiresOk pn rings) : Wires rings := by
  rcases h with ⟨_, r, nf, rfl, o, _⟩ | ⟨r0, r1, nf, rfl, o, _, _, o1⟩
  · refine ⟨Nat.le_of_ble_eq_true rfl, fun x hx => ?_, fun x hx p hp => ?_⟩ <;> (rw [List.mem_singleton] at hx; subst hx)
    · have := o.len; omega
    · exact (o.pieces p hp).1
  · refine ⟨Nat.le_of_ble_eq_true rfl, fun x hx => ?_, fun x hx p hp => ?_⟩ <;> (simp only [List.mem_cons, List.not_mem_nil, or_false] at hx)
    · rcases hx with rfl | rfl
      · have := o.len; omega
      · have := o1.len; omega
    · rcases hx with rfl | rfl
      · exact (o.pieces p hp).1
      · exact (o1.pieces p hp).1
theorem WiresOk.pieces {pn : Nat} {rings : List Ring} (h : WiresOk pn rings) : ∀ r ∈ rings, r.2.length ≤ 8 ∧ ∀ p ∈ r.2, p.2.length ≤ 1 := by
  rcases h with ⟨_, r, nf, rfl, o, _⟩ | ⟨r0, r1, nf, rfl, o, _, _, o1⟩
  · intro x hx
    rw [List.mem_singleton] at hx
    subst hx
    exact ⟨o.len, fun p hp => (o.pieces p hp).2⟩
  · intro x hx
    simp only [List.mem_cons, List.not_mem_nil, or_false] at hx
    rcases hx with rfl | rfl
    · exact ⟨o.len, fun p hp => (o.pieces p hp).2⟩
    · exact ⟨o1.len, fun p hp => (o1.pieces p hp).2⟩
theorem WiresOk.nodup {pn : Nat} {rings : List Ring} (h : WiresOk pn rings) : (spotsOf rings sFeel).Nodup := by
  rcases h with ⟨_, r, nf, rfl, o, _⟩ | ⟨r0, r1, nf, rfl, o, _, _, o1⟩
  · rw [spots1]; exact spotsIn_nodup _ _ _
  · rw [spots2]
    refine List.nodup_append.mpr ⟨spotsIn_nodup _ _ _, spotsIn_nodup _ _ _, fun a ha b hb e => ?_⟩
    have h1 := spotsIn_fst ha
    have h2 := spotsIn_fst hb
    rw [e, h2] at h1
    simp at h1
theorem WiresOk.count {pn : Nat} {rings : List Ring} (h : WiresOk pn rings) : 3 ≤ (spotsOf rings sFeel).length ∧ (spotsOf rings sFeel).length ≤ 5 := by
  rcases h with ⟨_, r, nf, rfl, o, _, _⟩ | ⟨r0, r1, nf, rfl, o, _, _, o1⟩
  · rw [spots1, spotsIn_count, o.feel]; omega
  · rw [spots2, List.length_append, spotsIn_count, spotsIn_count, o.feel, o1.feel]; omega
theorem filter_panel {rings : List Ring} {i : Nat} {r : Ring} (hr : rings[i]? = some r) (pl : Int) (ps : List Piece) : ((spotsIn sFeel ps i).filter fun s => decide (panelAt rings s = pl)) = if r.1 = pl then spotsIn sFeel ps i else [] := by
  have e : ∀ s ∈ spotsIn sFeel ps i, panelAt rings s = r.1 := fun s hs => by
    unfold panelAt
    rw [spotsIn_fst hs, Int.toNat_natCast, hr]
  split
  · rename_i hp
    exact List.filter_eq_self.mpr fun s hs => decide_eq_true (by rw [e s hs, hp])
  · rename_i hp
    exact List.filter_eq_nil_iff.mpr fun s hs => by rw [e s hs]; simp [hp]
theorem WiresOk.goods {pn : Nat} {rings : List Ring} (h : WiresOk pn rings) (pl : Nat) (hp : pl < pn) (h2 : pn ≤ 2) : 2 ≤ (goodsOf rings pl).length ∧ (goodsOf rings pl).length ≤ 20 := by
  have hc := h.count
  refine ⟨?_, Nat.le_trans (List.length_filter_le _ _) (by omega)⟩
  unfold goodsOf
  rcases h with ⟨hn, r, nf, rfl, o, _, _⟩ | ⟨r0, r1, nf, rfl, o, _, _, o1⟩
  · rw [spots1, filter_panel (r := r) rfl, if_pos (by rw [o.panel]; omega), spotsIn_count, o.feel]
    omega
  · rw [spots2, List.filter_append, filter_panel (r := r0) rfl, filter_panel (r := r1) rfl, List.length_append, o.panel, o1.panel]
    by_cases z : pl = 0
    · rw [if_pos (by omega), spotsIn_count, o.feel]
      omega
    · rw [if_pos (c := (((pn - 1 : Nat) : Int) = (pl : Int))) (by omega), spotsIn_count sFeel r1.2, o1.feel]
      omega
/-! ### what a drawn house is -/
structure ZoneOk (fs : List Spot) (z : Zone) : Prop where
  nd : z.1.Nodup
  sorted : z.1.Pairwise (fun a b => dle eSpot a b = true)
  sub : ∀ s ∈ z.1, s ∈ fs
  ne : 1 ≤ z.1.length
  le : z.1.length ≤ 3
  knocks : z.2 = 1 ∨ (z.2 = 2 ∧ 2 ≤ z.1.length)
structure LineV (nz : Nat) (l : Line) : Prop where
  nd : l.zs.Nodup
  lt : ∀ z ∈ l.zs, z < nz
  ne : 1 ≤ l.zs.length
  le : l.zs.length ≤ 2
  wait : 0 ≤ l.wait ∧ l.wait ≤ 4
  out : l.out = 0 ∨ l.out = 1
structure HouseOk (pn : Nat) (h : House) : Prop where
  wires : WiresOk pn h.rings
  zones : ∀ z ∈ h.zones, ZoneOk (feelersOf h) z
  zl : h.zones.length ≤ 3
  lines : ∀ l ∈ h.lines, LineV h.zones.length l
  ll : h.lines.length ≤ 3
theorem perm_part {α : Type} {ls rest gs : List α} (h : (ls ++ rest).Perm gs) (nd : gs.Nodup) : ls.Nodup ∧ ∀ x ∈ ls, x ∈ gs := by
  have n2 := h.nodup_iff.mpr nd
  exact ⟨(List.nodup_append.mp n2).1, fun x hx => h.mem_iff.mp (List.mem_append_left _ hx)⟩
theorem ZoneD.ok {fs goods : List Spot} {z : Zone} (h : ZoneD goods z) (nd : goods.Nodup) (sub : ∀ s ∈ goods, s ∈ fs) : ZoneOk fs z := by
  obtain ⟨ls, rest, e, p, l2, l3, kn⟩ := h
  obtain ⟨n1, s1⟩ := perm_part p nd
  have pm := dsort_perm eSpot ls
  refine ⟨by rw [e]; exact pm.nodup_iff.mpr n1, by rw [e]; exact dsort_sorted _ _, fun s hs => ?_, ?_, ?_, ?_⟩
  · rw [e] at hs
    exact sub s (s1 s (pm.mem_iff.mp hs))
  · rw [e, dsort_len]; omega
  · rw [e, dsort_len]; omega
  · rw [e, dsort_len]
    rcases kn with k | k
    · exact .inl k
    · exact .inr ⟨k, l2⟩
theorem LineD.ok {nz : Nat} {l : Line} (h : LineD nz l) : LineV nz l := by
  obtain ⟨ls, rest, e, p, l1, l2⟩ := h.zs
  obtain ⟨n1, s1⟩ := perm_part p List.nodup_range
  have pm := dsort_perm eNat ls
  refine ⟨by rw [e]; exact pm.nodup_iff.mpr n1, fun z hz => ?_, by rw [e, dsort_len]; exact l1, by rw [e, dsort_len]; exact l2, h.wait, h.out⟩
  rw [e] at hz
  exact List.mem_range.mp (s1 z (pm.mem_iff.mp hz))
theorem goods_nodup {pn : Nat} {rings : List Ring} (h : WiresOk pn rings) (pl : Int) : (goodsOf rings pl).Nodup := h.nodup.sublist List.filter_sublist
theorem goods_sub {rings : List Ring} (pl : Int) : ∀ s ∈ goodsOf rings pl, s ∈ spotsOf rings sFeel := fun s hs => (List.mem_filter.mp hs).1
section
variable {P : Program} {w : World} {K : PySem.W.Frag} {mg : Str → Option Value} {base : Heap}
def Pre_abode (ds : List PyData) : Prop := ∃ pn : Nat, ds = [eNat pn, .bool false, .bool false] ∧ 1 ≤ pn ∧ pn ≤ 2
def R_abode (ds : List PyData) (d : PyData) : Prop := ∃ (pn : Nat) (h : House), ds = [eNat pn, .bool false, .bool false] ∧ d = eHouse h ∧ HouseOk pn h ∧ 2 ≤ h.zones.length ∧ h.panels = pn
abbrev HZone (P : Program) (w : World) (K : PySem.W.Frag) (mg : Str → Option Value) (base : Heap) : Prop := Has P w K mg base 3 "_law_zone" ["_law_tin", "_law_wires_so", "_law_panel_so", "_law_stays"] (PT 30 Pre_zone R_zone)
abbrev HLine (P : Program) (w : World) (K : PySem.W.Frag) (mg : Str → Option Value) (base : Heap) : Prop := Has P w K mg base 3 "_law_line" ["_law_tin", "_law_panels_so", "_law_zones_so", "_law_bars"] (PT 30 Pre_line R_line)
theorem tupE_inj {α : Type} {en : α → PyData} (inj : ∀ a b, en a = en b → a = b) {l m : List α} (h : PyData.tuple (l.map en) = .tuple (m.map en)) : l = m := map_inj inj _ _ (PyData.tuple.inj h)
theorem eRing_inj (a b : Ring) (h : eRing a = eRing b) : a = b := by
  unfold eRing at h
  simp only [PyData.tuple.injEq, List.cons.injEq, PyData.int.injEq, and_true] at h
  exact Prod.ext h.1 (map_inj ePiece_inj _ _ h.2)
/-- zone(tin, wires, k, False) -/
theorem x_zone {k : Nat} {N : List Str} {sc own : Scope} {X : Cx} {T : Dom} {ps : List Own} {ρ : List (Option PyData)} {os : List OD} {pos p p2 : Pos} {Φ : PyData → List OD → Prop} (C : At P w K mg base k N sc own X) (H : HZone P w K mg base) (hk : 3 ≤ k) (j : Nat) {i : Nat} {t : Addr} {es : List Expr} (hp : ps[j]? = some (i, t)) {rings : List Ring} {pl n : Nat} (he : EA X (HT T ps) ρ es [.tuple (rings.map eRing), eNat pl, .bool false]) (ho : os[j]? = some (.tin n)) (W : Wires rings) (g2 : 2 ≤ (goodsOf rings pl).length) (g20 : (goodsOf rings pl).length ≤ 20) (hn : n + 30 ≤ 2 ^ 60)
    (f : ∀ z, ZoneD (goodsOf rings pl) z → Φ (eZone z) (os.set j (.tin (n + 30)))) (nm : nameOk N sc i "_law_tin" = true := by decide +kernel) (hx : globOk sc "_law_zone" = true := by decide +kernel) (hpl : es.all plainE = true := by rfl) :
    XE X T ps ρ os (.Call (.Name "_law_zone" p) (.Name "_law_tin" p2 :: es) [] pos) Φ :=
  x_callT C H hk j hp (xa_of he ⟨n, ho, ⟨rings, pl, rfl, W, g2, g20⟩, hn, fun d ⟨rings', pl', z, e1, e2, e3⟩ => by
    simp only [List.cons.injEq, and_true] at e1
    have h1 := tupE_inj eRing_inj e1.1
    have h2 := eNat_inj e1.2
    subst h1 h2 e2
    exact f z e3⟩) nm hx hpl
theorem x_line {k : Nat} {N : List Str} {sc own : Scope} {X : Cx} {T : Dom} {ps : List Own} {ρ : List (Option PyData)} {os : List OD} {pos p p2 : Pos} {Φ : PyData → List OD → Prop} (C : At P w K mg base k N sc own X) (H : HLine P w K mg base) (hk : 3 ≤ k) (j : Nat) {i : Nat} {t : Addr} {es : List Expr} (hp : ps[j]? = some (i, t)) {pn nz n : Nat} (he : EA X (HT T ps) ρ es [eNat pn, eNat nz, .bool false]) (ho : os[j]? = some (.tin n)) (p1 : 1 ≤ pn) (p2' : pn ≤ 2) (z1 : 2 ≤ nz) (z2 : nz ≤ 3) (hn : n + 30 ≤ 2 ^ 60)
    (f : ∀ l, LineD nz l → Φ (eLine l) (os.set j (.tin (n + 30)))) (nm : nameOk N sc i "_law_tin" = true := by decide +kernel) (hx : globOk sc "_law_line" = true := by decide +kernel) (hpl : es.all plainE = true := by rfl) :
    XE X T ps ρ os (.Call (.Name "_law_line" p) (.Name "_law_tin" p2 :: es) [] pos) Φ :=
  x_callT C H hk j hp (xa_of he ⟨n, ho, ⟨pn, nz, rfl, p1, p2', z1, z2⟩, hn, fun d ⟨pn', nz', l, e1, e2, e3⟩ => by
    simp only [List.cons.injEq, and_true] at e1
    have h1 := eNat_inj e1.1
    have h2 := eNat_inj e1.2
    subst h1 h2 e2
    exact f l e3⟩) nm hx hpl
theorem ok_law_abode {f : Addr} {fd : FuncData} {x : Str} (B : Bt mg) (F : Fun K x x s_law_abode f fd) (H : HTake P w K mg base) (H1 : Has P w K mg base 4 "_law_wires" ["_law_tin", "_law_panels_so"] (PT 70 Pre_wires R_wires)) (H2 : HZone P w K mg base) (H3 : HLine P w K mg base) : FnOk P w K mg base CX0 5 f fd ["_law_tin", "_law_panels_so", "_law_stays", "_law_bars"] (PT 300 Pre_abode R_abode) := by
  refine fn_tin F sc_law_abode (fun ds ⟨_, e, _⟩ => by rw [e]; rfl) fun X T t n ds C ⟨pn, e, p1, p2⟩ hn => ?_
  subst e
  refine w_set C 4 (Ψ := fun d os1 => ∃ rings, d = .tuple (rings.map eRing) ∧ WiresOk pn rings ∧ os1 = [.tin (n + 70)]) (x_callT C H1 (by decide) 0 rfl (xa_of (ea_cons (e_var C 1 rfl) ea_nil) ⟨n, rfl, ⟨pn, rfl, p1, p2⟩, by omega, fun d ⟨pn', rings, e1, e2, e3⟩ => by
    simp only [List.cons.injEq, and_true] at e1
    have h1 := eNat_inj e1
    subst h1 e2
    exact ⟨rings, rfl, e3, rfl⟩⟩)) fun d os1 ⟨rings, e1, W, e2⟩ => ?_
  subst e1 e2
  refine w_set C 5 (Ψ := fun d os1 => ∃ nz, d = eNat nz ∧ 2 ≤ nz ∧ nz ≤ 3 ∧ os1 = [.tin (n + 70 + 1)]) (x_add (Ψ := fun d os1 => d = .int 2 ∧ os1 = [.tin (n + 70)]) (x_of e_int ⟨rfl, rfl⟩) fun d os1 ⟨e1, e2⟩ => by
    subst e1 e2
    refine x_int C B (x_cmpI op_eqI e_int (x_take C H (by decide) 0 rfl (b := 4) (x_of e_int ⟨rfl, rfl⟩) rfl (by decide) (by decide) (by omega) fun r hr => ⟨(r : Int), rfl, .inr ⟨decide ((r : Int) = 0), rfl, 2, _, rfl, rfl, 2 + (if decide ((r : Int) = 0) = true then 1 else 0), ?_, by omega, by split <;> omega, rfl⟩⟩))
    unfold eNat
    congr 1
    split <;> rfl) fun d os1 ⟨nz, e1, z1, z2, e2⟩ => ?_
  subst e1 e2
  refine w_set C 6 (Ψ := fun d os1 => ∃ zs : List Zone, d = .tuple (zs.map eZone) ∧ zs.length = nz ∧ (∀ z ∈ zs, ZoneOk (spotsOf rings sFeel) z) ∧ os1 = [.tin (n + 70 + 1 + 30 * nz)]) (x_tuple C B (x_lc C [("_law_k", 8)] (ΦA := fun xs os1 => xs = upTo nz ∧ os1 = [.tin (n + 70 + 1)]) (fun xs i acc osi => xs = upTo nz ∧ ∃ zs : List Zone, acc = zs.map eZone ∧ zs.length = i ∧ (∀ z ∈ zs, ZoneOk (spotsOf rings sFeel) z) ∧ osi = [.tin (n + 70 + 1 + 30 * i)]) (i_of (it_range C B (e_var C 5 rfl) (by omega)) ⟨rfl, rfl⟩) (fun xs os1 ⟨e1, e2⟩ => ⟨by rw [e1, upTo_length]; omega, e1, [], rfl, rfl, fun z hz => by simp at hz, e2⟩) (fun xs i hlt acc osi ⟨e1, zs, e2, e3, e4, e5⟩ => ?_) (fun xs acc ose ⟨e1, zs, e2, e3, e4, e5⟩ => ⟨_, rfl, zs, by rw [e2], by rw [e3, e1, upTo_length], e4, by rw [e5, e1, upTo_length]⟩))) fun d os1 ⟨zs, e1, zl, zo, e2⟩ => ?_
  · subst e1 e2 e5
    have hi : i < nz := by simpa [upTo] using hlt
    have hx : (upTo nz)[i]'hlt = .int (i : Int) := Option.some.inj ((List.getElem?_eq_getElem hlt).symm.trans (upTo_at hi))
    rw [hx]
    have hmod : i % pn < pn := Nat.mod_lt _ (by omega)
    obtain ⟨g2, g20⟩ := W.goods (i % pn) hmod p2
    refine ⟨_, _, by decide, fun X' T' C' => ⟨tg_name C' 8, x_zone C' H2 (by decide) 0 rfl (pl := i % pn) (ea_cons (e_var C' 4 rfl) (ea_cons ((e_mod (e_int1 C' B (e_var C' 8 rfl)) (e_var C' 1 rfl) (by show (0 : Int) < (pn : Int); omega)).is (c := eNat (i % pn)) (by unfold eNat; rw [Int.natCast_emod])) (ea_cons (e_var C' 2 rfl) ea_nil))) rfl W.wires g2 g20 (by omega) fun z hz => ⟨rfl, zs ++ [z], by rw [List.map_append] <;> rfl, by rw [List.length_append, e3] <;> rfl, fun y hy => ?_, rfl⟩⟩⟩
    rcases List.mem_append.mp hy with hy | hy
    · exact e4 y hy
    · rw [List.mem_singleton] at hy
      subst hy
      exact hz.ok (goods_nodup W _) (goods_sub _)
  · subst e1 e2
    refine w_set C 7 (Ψ := fun d os1 => ∃ ls : List Line, d = .tuple (ls.map eLine) ∧ ls.length ≤ 3 ∧ (∀ l ∈ ls, LineV nz l) ∧ os1 = [.tin (n + 70 + 1 + 30 * nz + 1 + 30 * ls.length)]) (x_tuple C B (x_lc C [("_law_k", 8)] (ΦA := fun xs os1 => ∃ m, m ≤ 3 ∧ xs = upTo m ∧ os1 = [.tin (n + 70 + 1 + 30 * nz + 1)]) (fun xs i acc osi => ∃ m, m ≤ 3 ∧ xs = upTo m ∧ ∃ ls : List Line, acc = ls.map eLine ∧ ls.length = i ∧ (∀ l ∈ ls, LineV nz l) ∧ osi = [.tin (n + 70 + 1 + 30 * nz + 1 + 30 * i)]) (i_range C B (x_add (Ψ := fun d os1 => d = .int 2 ∧ os1 = [.tin (n + 70 + 1 + 30 * nz)]) (x_of e_int ⟨rfl, rfl⟩) fun d os1 ⟨e1, e2⟩ => by
      subst e1 e2
      exact x_take C H (by decide) 0 rfl (b := 2) (x_of e_int ⟨rfl, rfl⟩) rfl (by decide) (by decide) (by omega) fun r hr => ⟨2, (r : Int), rfl, rfl, 2 + r, congrArg PyData.int (by omega), by omega, 2 + r, by omega, rfl, rfl⟩)) (fun xs os1 ⟨m, hm, e1, e2⟩ => ⟨by rw [e1, upTo_length]; omega, m, hm, e1, [], rfl, rfl, fun z hz => by simp at hz, e2⟩) (fun xs i hlt acc osi ⟨m, hm, e1, ls, e2, e3, e4, e5⟩ => ?_) (fun xs acc ose ⟨m, hm, e1, ls, e2, e3, e4, e5⟩ => ⟨_, rfl, ls, by rw [e2], by rw [e3, e1, upTo_length]; exact hm, e4, by rw [e5, e3]⟩))) fun d os1 ⟨ls, e1, ll, lo, e2⟩ => ?_
    · subst e1 e2 e5
      have hi : i < m := by simpa [upTo] using hlt
      refine ⟨_, _, by decide, fun X' T' C' => ⟨tg_name C' 8, x_line C' H3 (by decide) 0 rfl (ea_cons (e_var C' 1 rfl) (ea_cons (e_var C' 5 rfl) (ea_cons (e_var C' 3 rfl) ea_nil))) rfl p1 p2 z1 z2 (by omega) fun l hl => ⟨m, hm, rfl, ls ++ [l], by rw [List.map_append] <;> rfl, by rw [List.length_append, e3] <;> rfl, fun y hy => ?_, rfl⟩⟩⟩
      rcases List.mem_append.mp hy with hy | hy
      · exact e4 y hy
      · rw [List.mem_singleton] at hy
        subst hy
        exact hl.ok
    · subst e1 e2
      refine w_ret (x_of (e_tp (ea_cons (e_var C 4 rfl) (ea_cons (e_var C 6 rfl) (ea_cons (e_var C 7 rfl) (ea_cons (e_tp (ea_cons e_str (ea_cons e_str ea_nil))) (ea_cons (e_var C 1 rfl) ea_nil)))))) ⟨_, _, rfl, by omega, pn, ⟨rings, zs, ls, (pn : Int)⟩, rfl, rfl, ⟨W, zo, by show zs.length ≤ 3; omega, fun l hl => by show LineV zs.length l; rw [zl]; exact lo l hl, ll⟩, by show 2 ≤ zs.length; omega, rfl⟩)
end
end Sk
set_option maxHeartbeats 8000000
/-! Sk18: begun, rise. -/
namespace Sk
open PySem PySem.Spec PyProof.Rows L2 PySem.W
section
variable {P : Program} {w : World} {K : PySem.W.Frag} {mg : Str → Option Value} {base : Heap}
/-- a pure def called on what is drawn -/
theorem x_callP {k : Nat} {N : List Str} {sc own : Scope} {X : Cx} {T : Dom} {ps : List Own} {ρ : List (Option PyData)} {os : List OD} {pos p : Pos} {Φ : PyData → List OD → Prop} (C : At P w K mg base k N sc own X) {j : Nat} {x : Str} {prs : List Str} {R : List PyData → PyData → Prop} {e : Expr} {es : List Expr} (F : Has P w K mg base j x prs (Pu R)) (hj : j ≤ k)
    (ha : XA X T ps ρ os (e :: es) (fun ds os1 => ∃ d, R ds d ∧ Φ d os1)) (hx : globOk sc x = true := by decide +kernel) (hp : (e :: es).all plainE = true := by rfl) : XE X T ps ρ os (.Call (.Name x p) (e :: es) [] pos) Φ := fun σ H Q s q =>
  we_call C F hj hx hp (ha σ H _ s fun vs H1 ds os1 ⟨d, hR, f⟩ e1 s1 h1 => ⟨HT T ps, ds, d, s1.ok.1, h1, hR, fun v H' e' hv => q v H' d os1 f (e1.trans (.of e')) (s1.same e') hv⟩)
/-! ### begun -/
def BegunD (fs : List Spot) (last : Nat) (b : Row) : Prop := (b.map (·.1)).Nodup ∧ ∀ p ∈ b, p.1 ∈ fs ∧ 0 ≤ p.2 ∧ p.2 ≤ last
def Pre_begun (ds : List PyData) : Prop := ∃ (rings : List Ring) (last : Nat), ds = [.tuple (rings.map eRing), eNat last] ∧ Wires rings ∧ (spotsOf rings sFeel).Nodup ∧ 2 ≤ (spotsOf rings sFeel).length ∧ (spotsOf rings sFeel).length ≤ 20 ∧ last ≤ 100
def R_begun (ds : List PyData) (d : PyData) : Prop := ∃ (rings : List Ring) (last : Nat) (b : Row), ds = [.tuple (rings.map eRing), eNat last] ∧ d = eRow b ∧ BegunD (spotsOf rings sFeel) last b ∧ b.length ≤ 20
theorem ok_law_begun {f : Addr} {fd : FuncData} {x : Str} (B : Bt mg) (F : Fun K x x s_law_begun f fd) (H : HTake P w K mg base) (H2 : HPick P w K mg base) (H3 : Has P w K mg base 2 "_law_feelers" ["_law_wires_so"] (Pu R_lfeelers)) : FnOk P w K mg base CX0 3 f fd ["_law_tin", "_law_wires_so", "_law_last_so"] (PT 60 Pre_begun R_begun) := by
  refine fn_tin F sc_law_begun (fun ds ⟨_, _, e, _⟩ => by rw [e]; rfl) fun X T t n ds C ⟨rings, last, e, W, nd, g2, g20, hl⟩ hn => ?_
  subst e
  refine w_set C 3 (Ψ := fun d os1 => d = .list ((spotsOf rings sFeel).map eSpot) ∧ os1 = [.tin n]) (x_of (e_call C H3 (by decide) (ea_cons (e_var C 1 rfl) ea_nil) ⟨rings, rfl, W, rfl⟩) ⟨rfl, rfl⟩) fun d os1 ⟨e1, e2⟩ => ?_
  subst e1 e2
  refine w_set C 4 (Ψ := fun d os1 => ∃ ls rest : List Spot, d = .list (ls.map eSpot) ∧ (ls ++ rest).Perm (spotsOf rings sFeel) ∧ os1 = [.tin (n + 1 + 20)]) (x_pick C H2 (by decide) 0 rfl (gs := spotsOf rings sFeel) (en := eSpot) (xa_cons (Φ := fun d os1 => d = .list ((spotsOf rings sFeel).map eSpot) ∧ os1 = [.tin n]) (x_of (e_var C 3 rfl) ⟨rfl, rfl⟩) fun d os1 ⟨e1, e2⟩ => ?_) eSpot_inj) fun d os1 ⟨ls, rest, e1, e2, e3⟩ => ?_
  · subst e1 e2
    refine xa_cons (Φ := fun d os1 => ∃ v, d = eNat v ∧ os1 = [.tin (n + 1)]) (x_sub (Ψ := fun d os1 => d = .int ((spotsOf rings sFeel).length : Int) ∧ os1 = [.tin n]) (x_of ((e_len C B (e_var C 3 rfl) (.inr rfl)).is (by rw [List.length_map])) ⟨rfl, rfl⟩) fun d os1 ⟨e1, e2⟩ => by
      subst e1 e2
      exact x_take C H (by decide) 0 rfl (b := 2) (x_of e_int ⟨rfl, rfl⟩) rfl (by decide) (by decide) (by omega) fun r hr => ⟨_, (r : Int), rfl, rfl, (spotsOf rings sFeel).length - r, congrArg PyData.int (by omega), rfl⟩) fun d os1 ⟨v, e1, e2⟩ => xa_nil ?_
    subst e1 e2
    exact ⟨_, v, n + 1, rfl, .inr rfl, g20, rfl, by omega, fun ls rest _ hp => ⟨ls, rest, rfl, hp, rfl⟩⟩
  · subst e1 e3
    obtain ⟨nl, sl⟩ := perm_part e2 nd
    have ll : ls.length ≤ 20 := by
      have := e2.length_eq
      rw [List.length_append] at this
      omega
    refine w_ret (x_tuple C B (x_sorted C B kind_pair (x_lc C [("_law_spot_so", 5)] (ΦA := fun xs os1 => xs = ls.map eSpot ∧ os1 = [.tin (n + 1 + 20)]) (fun xs i acc osi => xs = ls.map eSpot ∧ ∃ b : Row, acc = b.map ePair ∧ b.map (·.1) = ls.take i ∧ (∀ p ∈ b, 0 ≤ p.2 ∧ p.2 ≤ last) ∧ osi = [.tin (n + 1 + 20 + i)]) (i_of (it_list (e_var C 4 rfl)) ⟨rfl, rfl⟩) (fun xs os1 ⟨e1, e2⟩ => ⟨by rw [e1, List.length_map]; omega, e1, [], rfl, rfl, fun p hp => by simp at hp, e2⟩) (fun xs i hlt acc osi ⟨e1, b, e3, e4, e5, e6⟩ => ?_) fun xs acc ose ⟨e1, b, e3, e4, e5, e6⟩ => ?_)))
    · subst e1 e3 e6
      have hi : i < ls.length := by simpa using hlt
      rw [List.getElem_map]
      refine ⟨_, _, by decide, fun X' T' C' => ⟨tg_name C' 5, x_tup (xa_cons (Φ := fun d os1 => d = eSpot ls[i] ∧ os1 = [.tin (n + 1 + 20 + i)]) (x_of (e_var C' 5 rfl) ⟨rfl, rfl⟩) fun d os1 ⟨e1, e2⟩ => ?_)⟩⟩
      subst e1 e2
      refine xa_cons (Φ := fun d os1 => ∃ v, v < last + 1 ∧ d = eNat v ∧ os1 = [.tin (n + 1 + 20 + i + 1)]) (x_take C' H (by decide) 0 rfl (b := last + 1) (x_of ((e_add (e_var C' 2 rfl) e_int).is (c := eNat (last + 1)) (congrArg PyData.int (by omega))) ⟨rfl, rfl⟩) rfl (by omega) (by omega) (by omega) fun r hr => ⟨r, hr, rfl, rfl⟩) fun d os1 ⟨v, hv, e1, e2⟩ => xa_nil ?_
      subst e1 e2
      refine ⟨Nat.le_of_ble_eq_true rfl, rfl, b ++ [(ls[i], (v : Int))], by rw [List.map_append] <;> rfl, ?_, fun p hp => ?_, rfl⟩
      · rw [List.map_append, e4, take_snoc (List.getElem?_eq_getElem hi)] <;> rfl
      · rcases List.mem_append.mp hp with hp | hp
        · exact e5 p hp
        · rw [List.mem_singleton] at hp
          subst hp
          exact ⟨by show 0 ≤ (v : Int); omega, by show (v : Int) ≤ last; omega⟩
    · subst e1 e3 e6
      rw [List.length_map, List.take_length] at e4
      have pm := dsort_perm ePair b
      refine ⟨b, rfl, sortable_pair _, _, rfl, _, n + 1 + 20 + (ls.map eSpot).length, rfl, by rw [List.length_map]; omega, rings, last, dsort ePair b, rfl, rfl, ⟨?_, fun p hp => ?_⟩, ?_⟩
      · exact (pm.map (·.1)).nodup_iff.mpr (by rw [e4]; exact nl)
      · have hp := pm.mem_iff.mp hp
        refine ⟨sl p.1 ?_, e5 p hp⟩
        rw [← e4]
        exact List.mem_map.mpr ⟨p, hp, rfl⟩
      · rw [dsort_len]
        have := congrArg List.length e4
        rw [List.length_map] at this
        omega
/-! ### rise -/
def Pre_rise (ds : List PyData) : Prop := ∃ pn : Nat, ds = [eNat pn] ∧ 1 ≤ pn ∧ pn ≤ 2
def R_rise (ds : List PyData) (d : PyData) : Prop := ∃ (pn : Nat) (h : House), ds = [eNat pn] ∧ d = eHouse h ∧ HouseOk pn h
theorem eHouse_inj_rings {h h' : House} (e : eHouse h = eHouse h') : h.rings = h'.rings := by
  unfold eHouse at e
  simp only [PyData.tuple.injEq, List.cons.injEq] at e
  exact map_inj eRing_inj _ _ e.1
theorem ok_law_rise {f : Addr} {fd : FuncData} {x : Str} (B : Bt mg) (F : Fun K x x s_law_rise f fd) (H : HTake P w K mg base) (H2 : HPick P w K mg base) (H3 : Has P w K mg base 2 "_law_feelers" ["_law_wires_so"] (Pu R_lfeelers)) (H4 : Has P w K mg base 5 "_law_abode" ["_law_tin", "_law_panels_so", "_law_stays", "_law_bars"] (PT 300 Pre_abode R_abode)) (H5 : HLine P w K mg base) (H6 : Has P w K mg base 1 "_law_put_at" ["_law_row_so", "_law_place_so", "_law_bit_so"] (Pu R_put_at)) :
    FnOk P w K mg base CX0 6 f fd ["_law_tin", "_law_panels_so"] (PT 500 Pre_rise R_rise) := by
  refine fn_tin F sc_law_rise (fun ds ⟨_, e, _⟩ => by rw [e]; rfl) fun X T t n ds C ⟨pn, e, p1, p2⟩ hn => ?_
  subst e
  refine w_set C 2 (Ψ := fun d os1 => ∃ h, d = eHouse h ∧ HouseOk pn h ∧ 2 ≤ h.zones.length ∧ os1 = [.tin (n + 300)]) (x_callT C H4 (by decide) 0 rfl (xa_of (ea_cons (e_var C 1 rfl) (ea_cons e_bool (ea_cons e_bool ea_nil))) ⟨n, rfl, ⟨pn, rfl, p1, p2⟩, by omega, fun d ⟨pn', h, e1, e2, e3, e4, _⟩ => by
    simp only [List.cons.injEq, and_true] at e1
    have h1 := eNat_inj e1
    subst h1 e2
    exact ⟨h, rfl, e3, e4, rfl⟩⟩)) fun d os1 ⟨h, e1, ho, z2, e2⟩ => ?_
  subst e1 e2
  refine w_if (ΦT := fun z os1 => os1 = [.tin (n + 300 + 1)]) (t_cmpI op_eqI e_int (x_take C H (by decide) 0 rfl (b := 4) (x_of e_int ⟨rfl, rfl⟩) rfl (by decide) (by decide) (by omega) fun r hr => ⟨(r : Int), rfl, rfl⟩)) fun z os1 eo => ?_
  subst eo
  cases z with
  | true =>
    rw [if_pos rfl]
    exact w_ret (x_of (e_var C 2 rfl) ⟨_, n + 300 + 1, rfl, by omega, pn, h, rfl, rfl, ho⟩)
  | false =>
    rw [if_neg Bool.false_ne_true]
    refine w_else ?_
    have W := ho.wires.wires
    have nd := ho.wires.nodup
    have sb := ho.wires.count
    obtain ⟨g2, g20⟩ := ho.wires.goods 0 (by omega) p2
    refine w_lc C 3 [("_law_own", 9)] (ys := spotsOf h.rings sFeel) eSpot (fun s => decide (panelAt h.rings s = ((0 : Nat) : Int))) eSpot (it_list (e_call C H3 (by decide) (ea_cons (e_ix (j := 0) (e_var C 2 rfl) e_int rfl rfl) ea_nil) ⟨h.rings, rfl, W, rfl⟩)) (fun s hs => ?_) (by omega) ?_
    · obtain ⟨i, r, e1, e2⟩ := spotsOf_at hs
      have e2' : (h.rings.map eRing)[i]? = some (eRing r) := by rw [List.getElem?_map, e2] <;> rfl
      have ep : panelAt h.rings s = r.1 := by
        unfold panelAt
        rw [e1, Int.toNat_natCast, e2]
      exact ⟨_, _, by decide, fun X' T' C' => ⟨tg_name C' 9, ets_one (et_cmp ((c_eqI (e_ix (j := 0) (e_ix (j := i) (e_ix (j := 0) (e_var C' 2 rfl) e_int rfl rfl) (e_ix (j := 0) (e_var C' 9 rfl) e_int rfl rfl) e1 e2') e_int rfl rfl) e_int).is (by rw [← ep] <;> rfl))), fun _ => e_var C' 9 rfl⟩⟩
    refine w_set C 4 (Ψ := fun d os1 => ∃ ls rest : List Spot, d = .tuple ((dsort eSpot ls).map eSpot) ∧ (ls ++ rest).Perm (goodsOf h.rings ((0 : Nat) : Int)) ∧ 2 ≤ ls.length ∧ ls.length ≤ 3 ∧ os1 = [.tin (n + 300 + 1 + 1 + 20)]) (x_tuple C B (x_sorted C B kind_spot (x_pick C H2 (by decide) 0 rfl (gs := goodsOf h.rings ((0 : Nat) : Int)) (en := eSpot) (xa_cons (Φ := fun d os1 => d = .list ((goodsOf h.rings ((0 : Nat) : Int)).map eSpot) ∧ os1 = [.tin (n + 300 + 1)]) (x_of (e_var C 3 rfl) ⟨rfl, rfl⟩) fun d os1 ⟨e1, e2⟩ => ?_) eSpot_inj))) fun d os1 ⟨l1, r1, e1, pq, q3, q4, e5⟩ => ?_
    · subst e1 e2
      refine xa_cons (Φ := fun d os1 => ∃ v, v < 2 ∧ d = eNat (2 + v) ∧ os1 = [.tin (n + 300 + 1 + 1)]) (x_add (Ψ := fun d os1 => d = .int 2 ∧ os1 = [.tin (n + 300 + 1)]) (x_of e_int ⟨rfl, rfl⟩) fun d os1 ⟨e1, e2⟩ => by
        subst e1 e2
        exact x_take C H (by decide) 0 rfl (b := 2) (x_of e_int ⟨rfl, rfl⟩) rfl (by decide) (by decide) (by omega) fun r hr => ⟨2, (r : Int), rfl, rfl, r, hr, congrArg PyData.int (by omega), rfl⟩) fun d os1 ⟨v, hv, e1, e2⟩ => xa_nil ?_
      subst e1 e2
      exact ⟨_, 2 + v, n + 300 + 1 + 1, rfl, .inr rfl, g20, rfl, by omega, fun ls rest hl hp => ⟨ls, rfl, sortable_spot _, _, rfl, ls, rest, rfl, hp, by omega, by omega, rfl⟩⟩
    subst e1 e5
    have ld1 : (dsort eSpot l1).length = l1.length := dsort_len _ _
    refine w_set C 5 (Ψ := fun d os1 => ∃ ls rest : List Spot, d = .tuple ((dsort eSpot ls).map eSpot) ∧ (ls ++ rest).Perm (dsort eSpot l1) ∧ 1 ≤ ls.length ∧ ls.length ≤ 3 ∧ os1 = [.tin (n + 300 + 1 + 1 + 20 + 1 + 20)]) (x_tuple C B (x_sorted C B kind_spot (x_pick C H2 (by decide) 0 rfl (gs := dsort eSpot l1) (en := eSpot) (xa_cons (Φ := fun d os1 => d = .tuple ((dsort eSpot l1).map eSpot) ∧ os1 = [.tin (n + 300 + 1 + 1 + 20)]) (x_of (e_var C 4 rfl) ⟨rfl, rfl⟩) fun d os1 ⟨e1, e2⟩ => ?_) eSpot_inj))) fun d os1 ⟨l2, r2, f1, f2, f3, f4, f5⟩ => ?_
    · subst e1 e2
      refine xa_cons (Φ := fun d os1 => ∃ v, v < 2 ∧ d = eNat (1 + v) ∧ os1 = [.tin (n + 300 + 1 + 1 + 20 + 1)]) (x_add (Ψ := fun d os1 => d = .int 1 ∧ os1 = [.tin (n + 300 + 1 + 1 + 20)]) (x_of e_int ⟨rfl, rfl⟩) fun d os1 ⟨e1, e2⟩ => by
        subst e1 e2
        exact x_take C H (by decide) 0 rfl (b := 2) (x_of e_int ⟨rfl, rfl⟩) rfl (by decide) (by decide) (by omega) fun r hr => ⟨1, (r : Int), rfl, rfl, r, hr, congrArg PyData.int (by omega), rfl⟩) fun d os1 ⟨v, hv, e1, e2⟩ => xa_nil ?_
      subst e1 e2
      exact ⟨_, 1 + v, n + 300 + 1 + 1 + 20 + 1, rfl, .inl rfl, by omega, rfl, by omega, fun ls rest hl hp => ⟨ls, rfl, sortable_spot _, _, rfl, ls, rest, rfl, hp, by omega, by omega, rfl⟩⟩
    subst f1 f5
    obtain ⟨za, zb, zr, hz⟩ : ∃ za zb zr, h.zones = za :: zb :: zr := by
      match hz : h.zones, z2 with
      | a :: b :: r, _ => exact ⟨a, b, r, rfl⟩
      | [a], z2 => simp at z2
      | [], z2 => simp at z2
    have zbm : zb ∈ h.zones := by rw [hz]; simp
    generalize hm : n + 300 + 1 + 1 + 20 + 1 + 20 = m
    refine w_set C 6 (Ψ := fun d os1 => d = .tuple ([(dsort eSpot l1, 2), (dsort eSpot l2, 1), zb].map eZone) ∧ os1 = [.tin m]) (x_of ((e_cat (ds := [(dsort eSpot l1, 2), (dsort eSpot l2, 1)].map eZone) (es := [eZone zb]) (e_tp (ea_cons (e_tp (ea_cons (e_var C 4 rfl) (ea_cons e_int (ea_cons e_none ea_nil)))) (ea_cons (e_tp (ea_cons (e_var C 5 rfl) (ea_cons e_int (ea_cons e_none ea_nil)))) ea_nil))) ((e_sl (l := some 1) (u := some 2) (e_ix (j := 1) (e_var C 2 rfl) e_int rfl rfl) (eo_some (e_int.is rfl)) (eo_some (e_int.is rfl))).is (by
      show PyData.tuple (((h.zones.map eZone).drop 1).take 1) = _
      rw [hz] <;> rfl)) (Nat.le_of_ble_eq_true rfl)).is rfl) ⟨rfl, rfl⟩) fun d os1 ⟨e1, e5⟩ => ?_
    subst e1 e5
    refine w_new C 7 (Φo := fun o os1 => ∃ v : Int, 0 ≤ v ∧ v ≤ 4 ∧ o = .lst ([⟨0, true, [0], v, 0, 0, 0⟩].map eLine) ∧ os1 = [.tin (m + 1)]) (xf_disp (xa_cons (Φ := fun d os1 => ∃ v : Int, 0 ≤ v ∧ v ≤ 4 ∧ d = eLine ⟨0, true, [0], v, 0, 0, 0⟩ ∧ os1 = [.tin (m + 1)]) (x_tup ?_) fun d os1 ⟨v, v0, v4, e1, e5⟩ => xa_nil ?_)) fun a o os1 ⟨v, v0, v4, e1, e5⟩ => ?_
    · refine xa_cons (Φ := fun d os1 => d = .int 0 ∧ os1 = [.tin m]) (x_of e_int ⟨rfl, rfl⟩) fun d os1 ⟨e1, e5⟩ => ?_
      subst e1 e5
      refine xa_cons (Φ := fun d os1 => d = .str sAny ∧ os1 = [.tin m]) (x_of e_str ⟨rfl, rfl⟩) fun d os1 ⟨e1, e5⟩ => ?_
      subst e1 e5
      refine xa_cons (Φ := fun d os1 => d = .tuple [eNat 0] ∧ os1 = [.tin m]) (x_of (e_tp (ea_cons e_int ea_nil)) ⟨rfl, rfl⟩) fun d os1 ⟨e1, e5⟩ => ?_
      subst e1 e5
      refine xa_cons (Φ := fun d os1 => ∃ v : Nat, v < 2 ∧ d = eNat v ∧ os1 = [.tin (m + 1)]) (x_take C H (by decide) 0 rfl (b := 2) (x_of e_int ⟨rfl, rfl⟩) rfl (by decide) (by decide) (by omega) fun r hr => ⟨r, hr, rfl, rfl⟩) fun d os1 ⟨v, hv, e1, e5⟩ => ?_
      subst e1 e5
      exact xa_of (ea_cons (e_tp ea_nil) (ea_cons e_int (ea_cons e_int (ea_cons e_int ea_nil)))) ⟨Nat.le_of_ble_eq_true rfl, (v : Int), by omega, by omega, rfl, rfl⟩
    · subst e1 e5
      exact ⟨Nat.le_of_ble_eq_true rfl, v, v0, v4, rfl, rfl⟩
    subst e1 e5
    refine w_append C 0 rfl rfl (x_tup (xa_cons (Φ := fun d os1 => ∃ u : Nat, d = eNat u ∧ os1 = [.lst ([⟨0, true, [0], v, 0, 0, 0⟩].map eLine), .tin (m + 1 + 1)]) (x_take C H (by decide) 1 rfl (b := pn) (x_of (e_var C 1 rfl) ⟨rfl, rfl⟩) rfl p1 (by omega) (by omega) fun r hr => ⟨r, rfl, rfl⟩) fun d os1 ⟨u, e1, e5⟩ => ?_))
    subst e1 e5
    refine xa_cons (Φ := fun d os1 => d = .str sAny ∧ os1 = [.lst ([⟨0, true, [0], v, 0, 0, 0⟩].map eLine), .tin (m + 1 + 1)]) (x_of e_str ⟨rfl, rfl⟩) fun d os1 ⟨e1, e5⟩ => ?_
    subst e1 e5
    refine xa_cons (Φ := fun d os1 => d = .tuple [eNat 1] ∧ os1 = [.lst ([⟨0, true, [0], v, 0, 0, 0⟩].map eLine), .tin (m + 1 + 1)]) (x_of (e_tp (ea_cons e_int ea_nil)) ⟨rfl, rfl⟩) fun d os1 ⟨e1, e5⟩ => ?_
    subst e1 e5
    refine xa_cons (Φ := fun d os1 => ∃ y : Nat, y < 4 ∧ d = eNat (1 + y) ∧ os1 = [.lst ([⟨0, true, [0], v, 0, 0, 0⟩].map eLine), .tin (m + 1 + 1 + 1)]) (x_add (Ψ := fun d os1 => d = .int 1 ∧ os1 = [.lst ([⟨0, true, [0], v, 0, 0, 0⟩].map eLine), .tin (m + 1 + 1)]) (x_of e_int ⟨rfl, rfl⟩) fun d os1 ⟨e1, e5⟩ => by
      subst e1 e5
      exact x_take C H (by decide) 1 rfl (b := 4) (x_of e_int ⟨rfl, rfl⟩) rfl (by decide) (by decide) (by omega) fun r hr => ⟨1, (r : Int), rfl, rfl, r, hr, congrArg PyData.int (by omega), rfl⟩) fun d os1 ⟨y, hy, e1, e5⟩ => ?_
    subst e1 e5
    refine xa_of (ea_cons (e_tp ea_nil) (ea_cons e_int (ea_cons e_int (ea_cons e_int ea_nil)))) ⟨Nat.le_of_ble_eq_true rfl, _, rfl, Nat.le_of_ble_eq_true rfl, ?_⟩
    have fin : ∀ L0 L1 : Line, LineV 3 L0 → LineV 3 L1 → XB X T [(7, a), (0, t)] [none, some (eNat pn), some (eHouse h), some (.list ((goodsOf h.rings ((0 : Nat) : Int)).map eSpot)), some (.tuple ((dsort eSpot l1).map eSpot)), some (.tuple ((dsort eSpot l2).map eSpot)), some (.tuple ([(dsort eSpot l1, 2), (dsort eSpot l2, 1), zb].map eZone)), none, none, none] [.lst ([L0, L1].map eLine), .tin (m + 1 + 1 + 1)] ((defBody s_law_rise).drop 8) (Drop fun r => ∃ d m', r = .rt d [.tin m'] ∧ m' ≤ n + 500 ∧ R_rise [eNat pn] d) := fun L0 L1 h0 h1 => by
      refine w_for C (ΦA := fun xs os1 => ∃ q, 1 ≤ q ∧ q ≤ 2 ∧ xs = upTo q ∧ os1 = [.lst ([L0, L1].map eLine), .tin (m + 1 + 1 + 1 + 1)]) (fun xs i ρi osi => ∃ q, 1 ≤ q ∧ q ≤ 2 ∧ xs = upTo q ∧ (∃ g, ρi = [none, some (eNat pn), some (eHouse h), some (.list ((goodsOf h.rings ((0 : Nat) : Int)).map eSpot)), some (.tuple ((dsort eSpot l1).map eSpot)), some (.tuple ((dsort eSpot l2).map eSpot)), some (.tuple ([(dsort eSpot l1, 2), (dsort eSpot l2, 1), zb].map eZone)), none, g, none]) ∧ ∃ ls : List Line, osi = [.lst ((L0 :: L1 :: ls).map eLine), .tin (m + 1 + 1 + 1 + 1 + 31 * i)] ∧ ls.length = i ∧ ∀ l ∈ ls, LineV 3 l) (i_range C B (x_add (Ψ := fun d os1 => d = .int 1 ∧ os1 = [.lst ([L0, L1].map eLine), .tin (m + 1 + 1 + 1)]) (x_of e_int ⟨rfl, rfl⟩) fun d os1 ⟨e1, e5⟩ => by
        subst e1 e5
        exact x_take C H (by decide) 1 rfl (b := 2) (x_of e_int ⟨rfl, rfl⟩) rfl (by decide) (by decide) (by omega) fun r hr => ⟨1, (r : Int), rfl, rfl, 1 + r, congrArg PyData.int (by omega), by omega, 1 + r, by omega, by omega, rfl, rfl⟩)) (fun xs os1 ⟨q, q1, q2, e1, e2⟩ => ⟨q, q1, q2, e1, ⟨none, rfl⟩, [], e2, rfl, fun l hl => by simp at hl⟩) (fun xs i hlt ρi osi ⟨q, q1, q2, e1, ⟨g, e2⟩, ls, e3, e4, e5⟩ => ?_) fun xs ρe ose ⟨q, q1, q2, e1, ⟨g, e2⟩, ls, e3, e4, e5⟩ => ?_
      · subst e1 e2 e3
        have hi : i < q := by simpa [upTo] using hlt
        refine ⟨_, _, tg_name C 8, rfl, ?_⟩
        refine w_append C 0 rfl rfl (x_callP C H6 (by decide) (xa_cons (Φ := fun d os1 => ∃ l, d = eLine l ∧ LineD 3 l ∧ os1 = [.lst ((L0 :: L1 :: ls).map eLine), .tin (m + 1 + 1 + 1 + 1 + 31 * i + 30)]) (x_line C H5 (by decide) 1 rfl (pn := pn) (nz := 3) (ea_cons (e_var C 1 rfl) (ea_cons e_int (ea_cons e_bool ea_nil))) rfl p1 p2 (by decide) (by decide) (by omega) fun l hl => ⟨l, rfl, hl, rfl⟩) fun d os1 ⟨l, e1, e2, e3⟩ => ?_))
        subst e1 e3
        refine xa_cons (Φ := fun d os1 => d = eNat 5 ∧ os1 = [.lst ((L0 :: L1 :: ls).map eLine), .tin (m + 1 + 1 + 1 + 1 + 31 * i + 30)]) (x_of e_int ⟨rfl, rfl⟩) fun d os1 ⟨e1, e3⟩ => ?_
        subst e1 e3
        refine xa_cons (Φ := fun d os1 => ∃ b : Int, (b = 0 ∨ b = 1) ∧ d = .int b ∧ os1 = [.lst ((L0 :: L1 :: ls).map eLine), .tin (m + 1 + 1 + 1 + 1 + 31 * i + 30 + 1)]) (x_int C B (x_cmpI op_gt e_int (x_take C H (by decide) 1 rfl (b := 4) (x_of e_int ⟨rfl, rfl⟩) rfl (by decide) (by decide) (by omega) fun r hr => ⟨(r : Int), rfl, .inr ⟨_, rfl, _, ?_, rfl, rfl⟩⟩))) fun d os1 ⟨b, hb, e1, e3⟩ => xa_nil ?_
        · split
          · exact .inr rfl
          · exact .inl rfl
        subst e1 e3
        have ol := e2.ok
        refine ⟨eLine { l with out := b }, ⟨_, 5, .int b, rfl, Nat.le_of_ble_eq_true rfl, rfl⟩, _, rfl, by rw [List.length_map, List.length_cons, List.length_cons]; omega, w_nil ⟨q, q1, q2, rfl, ⟨_, rfl⟩, ls ++ [{ l with out := b }], ?_, by rw [List.length_append, e4] <;> rfl, fun y hy => ?_⟩⟩
        · show [OD.lst _, OD.tin _] = [OD.lst _, OD.tin _]
          congr 2
          · rw [List.map_cons, List.map_cons, List.map_cons, List.map_cons, List.map_append] <;> rfl
        · rcases List.mem_append.mp hy with hy | hy
          · exact e5 y hy
          · rw [List.mem_singleton] at hy
            subst hy
            exact ⟨ol.nd, ol.lt, ol.ne, ol.le, ol.wait, hb⟩
      · subst e1 e2 e3
        rw [upTo_length] at e4
        obtain ⟨L2, lr, hls⟩ : ∃ L2 lr, ls = L2 :: lr := by
          match ls, e4 with
          | a :: r, _ => exact ⟨a, r, rfl⟩
          | [], e4 => simp at e4; omega
        subst hls
        have v2 := e5 L2 (by simp)
        refine w_retF (d := eHouse ⟨h.rings, [(dsort eSpot l1, 2), (dsort eSpot l2, 1), zb], [L0, L1, L2], (pn : Int)⟩) (e_tp (ea_cons (e_ix (j := 0) (e_var C 2 rfl) e_int rfl rfl) (ea_cons (e_var C 6 rfl) (ea_cons (e_tupleL C B ((e_slL (ds := (L0 :: L1 :: L2 :: lr).map eLine) (l := none) (u := some 3) (e_var C 7 rfl) eo_none (eo_some (e_int.is rfl))).is rfl)) (ea_cons (e_tp (ea_cons e_str (ea_cons e_str ea_nil))) (ea_cons (e_var C 1 rfl) ea_nil)))))) ⟨_, m + 1 + 1 + 1 + 1 + 31 * (upTo q).length, rfl, by rw [upTo_length]; omega, pn, _, rfl, rfl, ⟨ho.wires, fun z hz => ?_, Nat.le_of_ble_eq_true rfl, fun l hl => ?_, Nat.le_of_ble_eq_true rfl⟩⟩
        · simp only [List.mem_cons, List.not_mem_nil, or_false] at hz
          have g1 := perm_part pq (goods_nodup ho.wires _)
          have pm1 := dsort_perm eSpot l1
          have pm2 := dsort_perm eSpot l2
          have nd1 : (dsort eSpot l1).Nodup := pm1.nodup_iff.mpr g1.1
          have g2' := perm_part f2 nd1
          rcases hz with rfl | rfl | rfl
          · exact ⟨nd1, dsort_sorted _ _, fun s hs => goods_sub _ s (g1.2 s (pm1.mem_iff.mp hs)), by show 1 ≤ (dsort eSpot l1).length; omega, by show (dsort eSpot l1).length ≤ 3; omega, .inr ⟨rfl, by show 2 ≤ (dsort eSpot l1).length; omega⟩⟩
          · exact ⟨pm2.nodup_iff.mpr g2'.1, dsort_sorted _ _, fun s hs => goods_sub _ s (g1.2 s (pm1.mem_iff.mp (g2'.2 s (pm2.mem_iff.mp hs)))), by show 1 ≤ (dsort eSpot l2).length; rw [dsort_len]; omega, by show (dsort eSpot l2).length ≤ 3; rw [dsort_len]; omega, .inl rfl⟩
          · exact ho.zones _ zbm
        · simp only [List.mem_cons, List.not_mem_nil, or_false] at hl
          rcases hl with rfl | rfl | rfl
          · exact h0
          · exact h1
          · exact v2
    exact fin ⟨0, true, [0], v, 0, 0, 0⟩ ⟨(u : Int), true, [1], ((1 + y : Nat) : Int), 0, 0, 0⟩ ⟨by simp, fun z hz => by simp at hz; omega, Nat.le_of_ble_eq_true rfl, Nat.le_of_ble_eq_true rfl, ⟨v0, v4⟩, .inl rfl⟩ ⟨by simp, fun z hz => by simp at hz; omega, Nat.le_of_ble_eq_true rfl, Nat.le_of_ble_eq_true rfl, ⟨by show 0 ≤ ((1 + y : Nat) : Int); omega, by show ((1 + y : Nat) : Int) ≤ 4; omega⟩, .inl rfl⟩
end
end Sk
set_option maxHeartbeats 8000000
/-! Sk19: lists, same, hall, inn. -/
namespace Sk
open PySem PySem.Spec PyProof.Rows L2 PySem.W
def listD : PyData → PyData
  | .list ds => .list (listDs ds)
  | .tuple ds => .list (listDs ds)
  | d => d
where listDs : List PyData → List PyData
  | [] => []
  | d :: ds => listD d :: listDs ds
theorem listDs_map : ∀ ds : List PyData, listD.listDs ds = ds.map listD
  | [] => rfl
  | d :: ds => by rw [listD.listDs, listDs_map ds, List.map_cons]
mutual
theorem tup_list : ∀ d : PyData, tupD (listD d) = tupD d
  | .list ds => by rw [listD, tupD, tupD, tups_lists ds]
  | .tuple ds => by rw [listD, tupD, tupD, tups_lists ds]
  | .none => rfl
  | .bool _ => rfl
  | .int _ => rfl
  | .str _ => rfl
  | .dict _ => rfl
theorem tups_lists : ∀ ds : List PyData, tupD.tupDs (listD.listDs ds) = tupD.tupDs ds
  | [] => rfl
  | d :: ds => by rw [listD.listDs, tupD.tupDs, tupD.tupDs, tup_list d, tups_lists ds]
end
theorem okT_list : ∀ (n : Nat) (d : PyData), okT n d = true → okT n (listD d) = true
  | _, .none, _ => by simp [listD, okT]
  | _, .bool _, _ => by simp [listD, okT]
  | _, .int _, _ => by simp [listD, okT]
  | _, .str _, _ => by simp [listD, okT]
  | 0, .list _, h => by simp [okT] at h
  | 0, .tuple _, h => by simp [okT] at h
  | 0, .dict _, h => by simp [okT] at h
  | n + 1, .dict _, h => by simp [okT] at h
  | n + 1, .list ds, h => by
    rw [listD, listDs_map]
    simp only [okT, Bool.and_eq_true, decide_eq_true_eq, List.length_map, List.all_eq_true] at h ⊢
    refine ⟨h.1, fun x hx => ?_⟩
    obtain ⟨y, hy, rfl⟩ := List.mem_map.mp hx
    exact okT_list n y (h.2 y hy)
  | n + 1, .tuple ds, h => by
    rw [listD, listDs_map]
    simp only [okT, Bool.and_eq_true, decide_eq_true_eq, List.length_map, List.all_eq_true] at h ⊢
    refine ⟨h.1, fun x hx => ?_⟩
    obtain ⟨y, hy, rfl⟩ := List.mem_map.mp hx
    exact okT_list n y (h.2 y hy)
def R_lists (n : Nat) (ds : List PyData) (d : PyData) : Prop := ∃ x, ds = [x] ∧ okT n x = true ∧ d = listD x
section
variable {P : Program} {w : World} {K : PySem.W.Frag} {mg : Str → Option Value} {base : Heap}
theorem lists_step {f : Addr} {fd : FuncData} (B : Bt mg) (F : Fun K "_law_lists" "_law_lists" s_law_lists f fd) (n : Nat) (H : ∀ m, n = m + 1 → Has P w K mg base (m + 1) "_law_lists" ["_law_matter"] (Pu (R_lists m))) :
    FnOk P w K mg base CX0 (n + 1) f fd ["_law_matter"] (Pu (R_lists n)) := by
  refine fn_pure F sc_law_lists (fun ds d ⟨x, e, _⟩ => by rw [e]; rfl) fun X T ds d C ⟨x, e, ho, e2⟩ => ?_
  subst e e2
  cases x with
  | none => exact b_ret (e_if (et_val (e_isi2 C B (e_var C 0 rfl) B.list boot_list B.tuple boot_tuple (b := false) (c := false) kb_NoneType_list kb_NoneType_tuple)) (fun z => by cases z) fun _ => e_var C 0 rfl)
  | bool b => exact b_ret (e_if (et_val (e_isi2 C B (e_var C 0 rfl) B.list boot_list B.tuple boot_tuple (b := false) (c := false) kb_bool_list kb_bool_tuple)) (fun z => by cases z) fun _ => e_var C 0 rfl)
  | int b => exact b_ret (e_if (et_val (e_isi2 C B (e_var C 0 rfl) B.list boot_list B.tuple boot_tuple (b := false) (c := false) kb_int_list kb_int_tuple)) (fun z => by cases z) fun _ => e_var C 0 rfl)
  | str b => exact b_ret (e_if (et_val (e_isi2 C B (e_var C 0 rfl) B.list boot_list B.tuple boot_tuple (b := false) (c := false) kb_str_list kb_str_tuple)) (fun z => by cases z) fun _ => e_var C 0 rfl)
  | dict b => cases n <;> simp [okT] at ho
  | list ds =>
    cases n with
    | zero => simp [okT] at ho
    | succ m =>
      simp only [okT, Bool.and_eq_true, decide_eq_true_eq, List.all_eq_true] at ho
      exact b_ret (e_if (et_val (e_isi2 C B (e_var C 0 rfl) B.list boot_list B.tuple boot_tuple (b := true) (c := false) kb_list_list kb_list_tuple)) (fun _ => (e_lc C [("_law_bit", 1)] (ys := ds) (fun d => d) (fun _ => true) listD (by rw [List.map_id']; exact it_list (e_var C 0 rfl)) (fun y hy => ⟨_, _, by decide, fun X' T' C' => ⟨tg_name C' 1, ets_nil, fun _ => e_call C' (H m rfl) (Nat.le_refl _) (ea_cons (e_var C' 1 rfl) ea_nil) ⟨y, rfl, ho.2 y hy, rfl⟩⟩⟩) (by omega)).is (by rw [made_all, listD, listDs_map])) fun z => by cases z)
  | tuple ds =>
    cases n with
    | zero => simp [okT] at ho
    | succ m =>
      simp only [okT, Bool.and_eq_true, decide_eq_true_eq, List.all_eq_true] at ho
      exact b_ret (e_if (et_val (e_isi2 C B (e_var C 0 rfl) B.list boot_list B.tuple boot_tuple (b := false) (c := true) kb_tuple_list kb_tuple_tuple)) (fun _ => (e_lc C [("_law_bit", 1)] (ys := ds) (fun d => d) (fun _ => true) listD (by rw [List.map_id']; exact it_tup (e_var C 0 rfl)) (fun y hy => ⟨_, _, by decide, fun X' T' C' => ⟨tg_name C' 1, ets_nil, fun _ => e_call C' (H m rfl) (Nat.le_refl _) (ea_cons (e_var C' 1 rfl) ea_nil) ⟨y, rfl, ho.2 y hy, rfl⟩⟩⟩) (by omega)).is (by rw [made_all, listD, listDs_map])) fun z => by cases z)
theorem ok_law_lists {f : Addr} {fd : FuncData} (B : Bt mg) (D : Def K mg "_law_lists" s_law_lists ["_law_matter"] f fd) : ∀ n, FnOk P w K mg base CX0 (n + 1) f fd ["_law_matter"] (Pu (R_lists n))
  | 0 => lists_step B D.fn 0 fun m h => by cases h
  | n + 1 => lists_step B D.fn (n + 1) fun m h => by
    have e : n = m := by omega
    subst e
    exact D.has (ok_law_lists B D n)
/-! ### same -/
theorem boot_bool : bootBuiltins "bool" = some (.type "bool") := by decide +kernel
theorem boot_str : bootBuiltins "str" = some (.type "str") := by decide +kernel
def R_same0 (ds : List PyData) (d : PyData) : Prop := ∃ a : Str, ds = [.str a, .str a] ∧ PyData.strOk a = true ∧ d = .bool true
def R_same1 (ds : List PyData) (d : PyData) : Prop := ∃ as : List Str, ds = [.list (as.map PyData.str), .list (as.map PyData.str)] ∧ (∀ a ∈ as, PyData.strOk a = true) ∧ as.length ≤ 100 ∧ d = .bool true
theorem c_eqB {k : Nat} {N : List Str} {sc own : Scope} {X : Cx} {T : Dom} {ρ : List (Option PyData)} (C : At P w K mg base k N sc own X) {a b : Expr} {i j : Bool} (ha : E X T ρ a (.bool i)) (hb : E X T ρ b (.bool j)) : EC X T ρ .Eq a b (PyData.eqv (.bool i) (.bool j)) :=
  c_eq C ha hb (lay_of rfl (by simp [PyData.depth])) (lay_of rfl (by simp [PyData.depth]))
theorem c_neB {k : Nat} {N : List Str} {sc own : Scope} {X : Cx} {T : Dom} {ρ : List (Option PyData)} (C : At P w K mg base k N sc own X) {a b : Expr} {i j : Bool} (ha : E X T ρ a (.bool i)) (hb : E X T ρ b (.bool j)) : EC X T ρ .NotEq a b (!PyData.eqv (.bool i) (.bool j)) :=
  c_ne C ha hb (lay_of rfl (by simp [PyData.depth])) (lay_of rfl (by simp [PyData.depth]))
theorem ok_law_same0 {f : Addr} {fd : FuncData} {x : Str} (B : Bt mg) (F : Fun K x x s_law_same f fd) : FnOk P w K mg base CX0 1 f fd ["_law_got", "_law_due"] (Pu R_same0) := by
  refine fn_pure F sc_law_same (fun ds d ⟨x, e, _⟩ => by rw [e]; rfl) fun X T ds d C ⟨a, e, ho, e2⟩ => ?_
  subst e e2
  refine b_ifF (ET.is (et_val (e_isi2 C B (e_var C 1 rfl) B.list boot_list B.tuple boot_tuple (b := false) (c := false) kb_str_list kb_str_tuple)) rfl) (b_ifR (x := true) (EW.et (ew_or (x := false) (y := true) (et_cmp (c_isN (d := .str a) (e_var C 1 rfl))) fun _ => ew_or1 (et_val (e_isi2 C B (e_var C 1 rfl) B.bool boot_bool B.str boot_str (b := false) (c := true) kb_str_bool kb_str_str)))) (b_ret (E.is (e_and (x := true) (y := true) (e_cmp ((c_eq C (e_var C 0 rfl) (e_var C 1 rfl) (str_Lay _ ho) (str_Lay _ ho)).is ?_)) fun _ => e_and (x := true) (y := true) (e_cmp ((c_eqB C (e_isi (d := .str a) C B (e_var C 0 rfl) B.bool boot_bool (b := false) kb_str_bool) (e_isi (d := .str a) C B (e_var C 1 rfl) B.bool boot_bool (b := false) kb_str_bool)).is (by decide +kernel))) fun _ => e_one (e_cmp ((c_eqB C (i := false) (j := false) (e_cmp (c_isN (d := .str a) (e_var C 0 rfl))) (e_cmp (c_isN (d := .str a) (e_var C 1 rfl)))).is (by decide +kernel)))) rfl)))
  rw [eqv_str]
  simp
theorem ok_law_same1 {f : Addr} {fd : FuncData} (B : Bt mg) (D : Def K mg "_law_same" s_law_same ["_law_got", "_law_due"] f fd) : FnOk P w K mg base CX0 2 f fd ["_law_got", "_law_due"] (Pu R_same1) := by
  have H : Has P w K mg base 1 "_law_same" ["_law_got", "_law_due"] (Pu R_same0) := D.has (ok_law_same0 B D.fn)
  refine fn_pure D.fn sc_law_same (fun ds d ⟨x, e, _⟩ => by rw [e]; rfl) fun X T ds d C ⟨as, e, ho, hl, e2⟩ => ?_
  subst e e2
  refine b_ifR (x := true) (ET.is (et_val (e_isi2 C B (e_var C 1 rfl) B.list boot_list B.tuple boot_tuple (b := true) (c := false) kb_list_list kb_list_tuple)) rfl) ?_
  rw [if_pos rfl]
  refine b_ifF (EW.et (ew_or (x := false) (y := false) (et_cmp ((c_neB C (e_isi (d := .list (as.map PyData.str)) C B (e_var C 0 rfl) B.list boot_list (b := true) kb_list_list) (e_isi (d := .list (as.map PyData.str)) C B (e_var C 1 rfl) B.list boot_list (b := true) kb_list_list)).is (by decide +kernel))) fun _ => ew_or1 (et_cmp ((c_neB C (e_isi (d := .list (as.map PyData.str)) C B (e_var C 0 rfl) B.tuple boot_tuple (b := false) kb_list_tuple) (e_isi (d := .list (as.map PyData.str)) C B (e_var C 1 rfl) B.tuple boot_tuple (b := false) kb_list_tuple)).is (by decide +kernel))))) ?_
  have pz : ∀ as : List Str, paired (as.map PyData.str) (as.map PyData.str) = as.map fun a => .tuple [.str a, .str a] := by
    intro as
    induction as with
    | nil => rfl
    | cons a as ih => rw [List.map_cons, paired, ih, List.map_cons]
  refine b_ret (E.is (e_and (x := true) (y := true) (e_cmp ((c_eqI (e_len C B (e_var C 0 rfl) (.inr rfl)) (e_len C B (e_var C 1 rfl) (.inr rfl))).is (by simp))) fun _ => e_one (E.is (e_all (bs := as.map fun _ => true) C B (E.is (e_lc C [("_law_mine", 2), ("_law_its", 3)] (ys := as) (fun a => .tuple [.str a, .str a]) (fun _ => true) (fun _ => .bool true) (by rw [← pz]; exact it_zip C B (e_var C 0 rfl) (e_var C 1 rfl) fun d e hd => by obtain ⟨a, _, rfl⟩ := List.mem_map.mp hd; rfl) (fun a ha => ⟨_, _, by decide, fun X' T' C' => ⟨tg_tup C' (tgs_cons (tg_name C' 2) (tgs_cons (tg_name C' 3) tgs_nil)), ets_nil, fun _ => e_call C' H (Nat.le_refl _) (ea_cons (e_var C' 2 rfl) (ea_cons (e_var C' 3 rfl) ea_nil)) ⟨a, rfl, ho a ha, rfl⟩⟩⟩) (by omega)) ?_)) ?_)) rfl)
  · rw [made_all, List.map_map] <;> rfl
  · rw [all_true]
end
end Sk
set_option maxHeartbeats 4000000
/-! Mt1: the order of spots and pairs; lookups in rows; the k-th least. -/
namespace Sk
open PySem PySem.Spec PyProof.Rows L2 PySem.W
theorem dle_int {a b : Int} : dle PyData.int a b = true ↔ a ≤ b := by
  show (!PyProof.Rows.lexLt itemOrd [.inl b] [.inl a]) = true ↔ _
  simp [PyProof.Rows.lexLt, itemLt]
theorem dle_spot {s t : Spot} : dle eSpot s t = true ↔ s.1 < t.1 ∨ (s.1 = t.1 ∧ s.2 ≤ t.2) := by
  show (!PyProof.Rows.lexLt itemOrd [.inl 1, .inl t.1, .inl 1, .inl t.2, .inl 0] [.inl 1, .inl s.1, .inl 1, .inl s.2, .inl 0]) = true ↔ _
  simp [PyProof.Rows.lexLt, itemLt]
  omega
theorem dle_pair {p q : Pr} : dle ePair p q = true ↔ p.1.1 < q.1.1 ∨ (p.1.1 = q.1.1 ∧ (p.1.2 < q.1.2 ∨ (p.1.2 = q.1.2 ∧ p.2 ≤ q.2))) := by
  show (!PyProof.Rows.lexLt itemOrd [.inl 1, .inl 1, .inl q.1.1, .inl 1, .inl q.1.2, .inl 0, .inl 1, .inl q.2, .inl 0] [.inl 1, .inl 1, .inl p.1.1, .inl 1, .inl p.1.2, .inl 0, .inl 1, .inl p.2, .inl 0]) = true ↔ _
  simp [PyProof.Rows.lexLt, itemLt]
  omega
/-- strictly before -/
def sLt (a b : Spot) : Prop := a.1 < b.1 ∨ (a.1 = b.1 ∧ a.2 < b.2)
theorem sLt_ne {a b : Spot} (h : sLt a b) : a ≠ b := fun e => by subst e; unfold sLt at h; omega
theorem sLt_of {a b : Spot} (h : dle eSpot a b = true) (n : a ≠ b) : sLt a b := by
  rw [dle_spot] at h
  unfold sLt
  rcases h with h | ⟨h1, h2⟩
  · exact .inl h
  · refine .inr ⟨h1, ?_⟩
    rcases Int.lt_or_eq_of_le h2 with h3 | h3
    · exact h3
    · exact absurd (Prod.ext h1 h3) n
theorem sLt_le {a b : Spot} (h : sLt a b) : dle eSpot a b = true := by
  rw [dle_spot]
  unfold sLt at h
  omega
/-- a row in order, each spot once -/
def Canon (r : Row) : Prop := (r.map (·.1)).Pairwise sLt
theorem strict_of {l : List Spot} (nd : l.Nodup) (s : l.Pairwise fun a b => dle eSpot a b = true) : l.Pairwise sLt :=
  (s.and nd).imp fun h => sLt_of h.1 h.2
theorem Canon.nd {r : Row} (h : Canon r) : (r.map (·.1)).Nodup := List.Pairwise.imp sLt_ne h
theorem Canon.sorted {r : Row} (h : Canon r) : (r.map (·.1)).Pairwise fun a b => dle eSpot a b = true := List.Pairwise.imp sLt_le h
/-! ### lookups -/
theorem getS_cons (p : Pr) (r : Row) (k : Spot) : getS (p :: r) k = if p.1 = k then some p.2 else getS r k := by
  unfold getS
  rw [List.find?_cons]
  by_cases e : p.1 = k <;> simp [e]
theorem getS_nil (k : Spot) : getS [] k = none := rfl
theorem getS_none {r : Row} {k : Spot} : getS r k = none ↔ k ∉ r.map (·.1) := by
  induction r with
  | nil => simp [getS_nil]
  | cons p r ih =>
    rw [getS_cons]
    by_cases e : p.1 = k
    · simp [e]
    · rw [if_neg e, ih]
      simp [Ne.symm e]
theorem getS_mem {r : Row} {k : Spot} {v : Int} (h : getS r k = some v) : (k, v) ∈ r := by
  induction r with
  | nil => cases h
  | cons p r ih =>
    rw [getS_cons] at h
    by_cases e : p.1 = k
    · rw [if_pos e] at h
      have : p = (k, v) := Prod.ext e (Option.some.inj h)
      rw [this]
      exact List.mem_cons_self
    · rw [if_neg e] at h
      exact List.mem_cons_of_mem _ (ih h)
theorem getS_iff {r : Row} (nd : (r.map (·.1)).Nodup) {k : Spot} {v : Int} : getS r k = some v ↔ (k, v) ∈ r := by
  refine ⟨getS_mem, fun h => ?_⟩
  induction r with
  | nil => cases h
  | cons p r ih =>
    rw [List.map_cons, List.nodup_cons] at nd
    rw [getS_cons]
    rcases List.mem_cons.mp h with e | h
    · rw [← e, if_pos rfl]
    · rw [if_neg (fun e => nd.1 (by rw [e]; exact List.mem_map.mpr ⟨_, h, rfl⟩))]
      exact ih nd.2 h
theorem getS_putS (r : Row) (k j : Spot) (v : Int) : getS (putS r k v) j = if k = j then some v else getS r j := by
  unfold putS
  by_cases a : (r.any fun kv => decide (kv.1 = k)) = true
  · rw [if_pos a]
    induction r with
    | nil => simp at a
    | cons p r ih =>
      rw [List.map_cons, getS_cons, getS_cons]
      by_cases e : p.1 = k
      · rw [if_pos e]
        by_cases f : k = j
        · rw [if_pos (by rw [e]; exact f), if_pos f]
        · rw [if_neg (by rw [e]; exact f), if_neg f, if_neg (by rw [e]; exact f)]
          clear ih a
          induction r with
          | nil => rfl
          | cons q r ih =>
            rw [List.map_cons, getS_cons, getS_cons, ih]
            by_cases g : q.1 = k
            · rw [if_pos g, if_neg (by rw [g]; exact f), if_neg (by rw [g]; exact f)]
            · rw [if_neg g]
      · rw [if_neg e]
        have a2 : (r.any fun kv => decide (kv.1 = k)) = true := by
          rw [List.any_cons, decide_eq_false e, Bool.false_or] at a
          exact a
        rw [ih a2]
        by_cases f : p.1 = j
        · rw [if_pos f, if_pos f, if_neg (fun z => e (by rw [f, z]))]
        · rw [if_neg f, if_neg f]
  · rw [if_neg a]
    have n : ∀ q ∈ r, q.1 ≠ k := fun q hq e => a (List.any_eq_true.mpr ⟨q, hq, decide_eq_true e⟩)
    clear a
    induction r with
    | nil => rw [List.nil_append, getS_cons]
    | cons p r ih =>
      rw [List.cons_append, getS_cons, ih (fun q hq => n q (List.mem_cons_of_mem _ hq)), getS_cons]
      have := n p List.mem_cons_self
      by_cases f : p.1 = j
      · rw [if_pos f, if_pos f, if_neg (fun z => this (by rw [f, z]))]
      · rw [if_neg f, if_neg f]
theorem putS_nd {r : Row} (k : Spot) (v : Int) (nd : (r.map (·.1)).Nodup) : ((putS r k v).map (·.1)).Nodup := by
  unfold putS
  by_cases a : (r.any fun kv => decide (kv.1 = k)) = true
  · rw [if_pos a, List.map_map]
    have : ((fun x : Pr => x.1) ∘ fun kv : Pr => if kv.1 = k then (kv.1, v) else kv) = fun x => x.1 := by
      funext x
      show (if x.1 = k then (x.1, v) else x).1 = x.1
      split <;> rfl
    rw [this]
    exact nd
  · rw [if_neg a, List.map_append, List.nodup_append]
    refine ⟨nd, by simp, fun x hx y hy e => a ?_⟩
    obtain ⟨q, hq, rfl⟩ := List.mem_map.mp hx
    rw [List.map_cons, List.map_nil, List.mem_singleton] at hy
    exact List.any_eq_true.mpr ⟨q, hq, decide_eq_true (by rw [e, hy])⟩
theorem foldPut_nd : ∀ (b acc : Row), (acc.map (·.1)).Nodup → ((b.foldl (fun acc p => putS acc p.1 p.2) acc).map (·.1)).Nodup
  | [], _, h => h
  | p :: b, acc, h => foldPut_nd b _ (putS_nd _ _ h)
theorem dictS_nd (b : Row) : ((dictS b).map (·.1)).Nodup := foldPut_nd b [] List.nodup_nil
theorem foldPut_get : ∀ (b acc : Row), (b.map (·.1)).Nodup → ∀ k, getS (b.foldl (fun acc p => putS acc p.1 p.2) acc) k = (getS b k).or (getS acc k)
  | [], _, _, k => by simp [getS_nil]
  | p :: b, acc, h, k => by
    rw [List.map_cons, List.nodup_cons] at h
    rw [List.foldl_cons, foldPut_get b _ h.2, getS_putS, getS_cons]
    by_cases e : p.1 = k
    · subst e
      rw [if_pos rfl, if_pos rfl, getS_none.mpr h.1]
      rfl
    · rw [if_neg e, if_neg e]
theorem dict_get {b : Row} (nd : (b.map (·.1)).Nodup) (k : Spot) : getS (dictS b) k = getS b k := by
  unfold dictS
  rw [foldPut_get b [] nd, getS_nil, Option.or_none]
theorem but_fold (s : Spot) : ∀ (b acc acc' : Row), (∀ k, getS acc' k = if k = s then none else getS acc k) → ∀ k, getS ((butR b s).foldl (fun acc p => putS acc p.1 p.2) acc') k = if k = s then none else getS (b.foldl (fun acc p => putS acc p.1 p.2) acc) k
  | [], _, _, h, k => h k
  | p :: b, acc, acc', h, k => by
    unfold butR
    rw [List.filter_cons, List.foldl_cons]
    by_cases e : p.1 = s
    · rw [if_neg (by simp [e])]
      refine but_fold s b _ _ (fun j => ?_) k
      rw [h j, getS_putS]
      by_cases f : j = s
      · rw [if_pos f, if_pos f]
      · rw [if_neg f, if_neg f, if_neg (fun z => f (by rw [← z, e]))]
    · rw [if_pos (by simp [e]), List.foldl_cons]
      refine but_fold s b _ _ (fun j => ?_) k
      rw [getS_putS, getS_putS, h j]
      by_cases f : p.1 = j
      · rw [if_pos f, if_pos f, if_neg (fun z => e (by rw [f, z]))]
      · rw [if_neg f, if_neg f]
theorem but_get (b : Row) (s k : Spot) : getS (dictS (butR b s)) k = if k = s then none else getS (dictS b) k :=
  but_fold s b [] [] (fun k => by rw [getS_nil]; split <;> rfl) k
/-! ### times -/
/-- it comes, by T -/
def LeO (o : Option Int) (T : Int) : Prop := ∃ t, o = some t ∧ t ≤ T
theorem leO_some {t T : Int} : LeO (some t) T ↔ t ≤ T := ⟨fun ⟨_, e, h⟩ => by cases e; exact h, fun h => ⟨t, rfl, h⟩⟩
theorem leO_none {T : Int} : ¬ LeO none T := fun ⟨_, e, _⟩ => by cases e
theorem leO_ext {a b : Option Int} (h : ∀ T, LeO a T ↔ LeO b T) : a = b := by
  cases a with
  | none =>
    cases b with
    | none => rfl
    | some t => exact absurd ((h t).mpr (leO_some.mpr (Int.le_refl t))) leO_none
  | some s =>
    cases b with
    | none => exact absurd ((h s).mp (leO_some.mpr (Int.le_refl s))) leO_none
    | some t =>
      have h1 := leO_some.mp ((h s).mp (leO_some.mpr (Int.le_refl s)))
      have h2 := leO_some.mp ((h t).mpr (leO_some.mpr (Int.le_refl t)))
      rw [Int.le_antisymm h2 h1]
def leB (T : Int) (o : Option Int) : Bool := match o with
  | some t => decide (t ≤ T)
  | none => false
theorem leB_iff {T : Int} {o : Option Int} : leB T o = true ↔ LeO o T := by
  cases o with
  | none => exact ⟨fun h => by simp [leB] at h, fun h => absurd h leO_none⟩
  | some t => rw [leO_some]; simp [leB]
theorem sorted_kth (T : Int) : ∀ (l : List Int) (k : Nat), l.Pairwise (fun a b => a ≤ b) → (LeO (l[k]?) T ↔ k + 1 ≤ (l.filter fun t => decide (t ≤ T)).length)
  | [], k, _ => ⟨fun h => absurd h leO_none, fun h => absurd h (by simp)⟩
  | x :: l, k, h => by
    rw [List.pairwise_cons] at h
    by_cases e : x ≤ T
    · rw [List.filter_cons, if_pos (decide_eq_true e), List.length_cons]
      cases k with
      | zero => exact ⟨fun _ => by omega, fun _ => ⟨x, rfl, e⟩⟩
      | succ k =>
        rw [List.getElem?_cons_succ, sorted_kth T l k h.2]
        omega
    · have n : ∀ y ∈ x :: l, ¬ y ≤ T := fun y hy z => by
        rcases List.mem_cons.mp hy with rfl | hy
        · exact e z
        · have := h.1 y hy; omega
      rw [List.filter_eq_nil_iff.mpr (fun y hy => by simpa using n y hy)]
      exact ⟨fun ⟨t, ht, le⟩ => absurd le (n t (List.mem_of_getElem? ht)), fun h => absurd h (by simp)⟩
theorem filt_some (T : Int) : ∀ ns : List (Option Int), ((ns.filterMap id).filter fun t => decide (t ≤ T)).length = (ns.filter (leB T)).length
  | [] => rfl
  | none :: ns => by
    rw [List.filterMap_cons_none rfl, List.filter_cons, if_neg (by simp [leB])]
    exact filt_some T ns
  | some t :: ns => by
    rw [List.filterMap_cons_some (f := id) (b := t) rfl, List.filter_cons, List.filter_cons]
    by_cases e : t ≤ T
    · rw [if_pos (decide_eq_true e), if_pos (by simp [leB, e]), List.length_cons, List.length_cons, filt_some T ns]
    · rw [if_neg (by simpa using e), if_neg (by simpa [leB] using e), filt_some T ns]
theorem kth_le (ns : List (Option Int)) (k : Nat) (T : Int) : LeO (kth ns (k + 1)) T ↔ k + 1 ≤ (ns.filter (leB T)).length := by
  unfold kth
  rw [Nat.add_sub_cancel, sorted_kth T _ k ((dsort_sorted PyData.int (ns.filterMap id)).imp fun h => dle_int.mp h), ((dsort_perm PyData.int (ns.filterMap id)).filter _).length_eq, filt_some]
theorem kth1_le (ns : List (Option Int)) (T : Int) : LeO (kth ns 1) T ↔ ∃ o ∈ ns, LeO o T := by
  rw [kth_le ns 0 T]
  constructor
  · intro h
    obtain ⟨o, ho⟩ := List.exists_mem_of_length_pos (Nat.lt_of_lt_of_le Nat.zero_lt_one h)
    exact ⟨o, (List.mem_filter.mp ho).1, leB_iff.mp (List.mem_filter.mp ho).2⟩
  · intro ⟨o, ho, l⟩
    exact List.length_pos_of_mem (List.mem_filter.mpr ⟨ho, leB_iff.mpr l⟩)
end Sk
set_option maxHeartbeats 4000000
/-! Mt2: when a row is due; the least rows; rows of zones. -/
namespace Sk
open PySem PySem.Spec PyProof.Rows L2 PySem.W
/-- by the begins g the row is due by T -/
def Due (g : Spot → Option Int) (T : Int) (r : Row) : Prop := ∀ p ∈ r, ∃ t, g p.1 = some t ∧ t + p.2 ≤ T
def SomeDue (g : Spot → Option Int) (T : Int) (f : List Row) : Prop := ∃ r ∈ f, Due g T r
/-- nothing below 0 -/
def NN (r : Row) : Prop := ∀ p ∈ r, 0 ≤ p.2
structure Good (r : Row) : Prop where
  canon : Canon r
  nn : NN r
  ne : r ≠ []
def Goods (f : List Row) : Prop := ∀ r ∈ f, Good r
/-! ### one row over another -/
theorem overAt_iff {r : Row} (nd : (r.map (·.1)).Nodup) {p : Pr} : overAt r p = true ↔ ∃ v, getS r p.1 = some v ∧ p.2 ≤ v := by
  unfold overAt
  rw [dict_get nd]
  cases getS r p.1 <;> simp
theorem isOver_iff {r o : Row} (nd : (r.map (·.1)).Nodup) : isOver r o = true ↔ ∀ p ∈ o, ∃ v, (p.1, v) ∈ r ∧ p.2 ≤ v := by
  unfold isOver
  rw [List.all_eq_true]
  constructor
  · intro h p hp
    obtain ⟨v, hv, l⟩ := (overAt_iff nd).mp (h p hp)
    exact ⟨v, getS_mem hv, l⟩
  · intro h p hp
    obtain ⟨v, hv, l⟩ := h p hp
    exact (overAt_iff nd).mpr ⟨v, (getS_iff nd).mpr hv, l⟩
theorem over_due {g : Spot → Option Int} {T : Int} {r o : Row} (nd : (r.map (·.1)).Nodup) (h : isOver r o = true) (d : Due g T r) : Due g T o := fun p hp => by
  obtain ⟨v, hv, l⟩ := (isOver_iff nd).mp h p hp
  obtain ⟨t, ht, l2⟩ := d _ hv
  exact ⟨t, ht, by have := l2; simp only at this; omega⟩
theorem over_trans {r o q : Row} (n1 : (r.map (·.1)).Nodup) (n2 : (o.map (·.1)).Nodup) (h : isOver r o = true) (h2 : isOver o q = true) : isOver r q = true := by
  rw [isOver_iff n1] at h ⊢
  rw [isOver_iff n2] at h2
  intro p hp
  obtain ⟨v, hv, l⟩ := h2 p hp
  obtain ⟨u, hu, l2⟩ := h _ hv
  exact ⟨u, hu, by simp only at l2; omega⟩
theorem pair_one {r : Row} (nd : (r.map (·.1)).Nodup) {k : Spot} {u v : Int} (h : (k, u) ∈ r) (h2 : (k, v) ∈ r) : u = v := by
  have a := (getS_iff nd).mpr h
  rw [(getS_iff nd).mpr h2] at a
  exact (Option.some.inj a).symm
theorem canon_ext {r o : Row} (c : Canon r) (d : Canon o) (h : ∀ p, p ∈ r ↔ p ∈ o) : r = o := by
  have pr : ∀ {l : Row}, (l.map (·.1)).Nodup → l.Nodup := fun {l} h => (List.pairwise_map.mp h).imp fun hne e => hne (by rw [e])
  have pm : r.Perm o := (List.perm_ext_iff_of_nodup (pr c.nd) (pr d.nd)).mpr h
  have kk : r.map (·.1) = o.map (·.1) := kind_spot.unique c.sorted d.sorted (pm.map _)
  have back : ∀ {l : Row}, (l.map (·.1)).Nodup → l = (l.map (·.1)).map fun k => (k, (getS l k).getD 0) := fun {l} nd => by
    rw [List.map_map]
    have : ∀ p ∈ l, (id p : Pr) = ((fun k => (k, (getS l k).getD 0)) ∘ fun x => x.1) p := fun p hp => by
      show p = (p.1, (getS l p.1).getD 0)
      rw [(getS_iff nd).mpr (show (p.1, p.2) ∈ l from hp)]
      rfl
    rw [← List.map_congr_left this, List.map_id]
  have gg : ∀ k, getS r k = getS o k := fun k => by
    cases e : getS r k with
    | some v => exact ((getS_iff d.nd).mpr ((h _).mp (getS_mem e))).symm
    | none =>
      cases e2 : getS o k with
      | none => rfl
      | some v =>
        have := (getS_iff c.nd).mpr ((h _).mpr (getS_mem e2))
        rw [e] at this
        cases this
  rw [back c.nd, back d.nd, kk]
  exact List.map_congr_left fun k _ => by rw [gg]
theorem over_anti {r o : Row} (c : Canon r) (d : Canon o) (h : isOver r o = true) (h2 : isOver o r = true) : r = o := by
  rw [isOver_iff c.nd] at h
  rw [isOver_iff d.nd] at h2
  refine canon_ext c d fun p => ⟨fun hp => ?_, fun hp => ?_⟩
  · obtain ⟨v, hv, l⟩ := h2 p hp
    obtain ⟨u, hu, l2⟩ := h _ hv
    have := pair_one c.nd (show (p.1, p.2) ∈ r from hp) hu
    have e : v = p.2 := by simp only at l2; omega
    rw [e] at hv
    exact hv
  · obtain ⟨v, hv, l⟩ := h p hp
    obtain ⟨u, hu, l2⟩ := h2 _ hv
    have := pair_one d.nd (show (p.1, p.2) ∈ o from hp) hu
    have e : v = p.2 := by simp only at l2; omega
    rw [e] at hv
    exact hv
/-! ### the least rows -/
theorem mem_least {f : List Row} {r : Row} : r ∈ leastOf f ↔ r ∈ f ∧ ∀ o ∈ f, r ≠ o → isOver r o = false := by
  unfold leastOf
  rw [List.mem_filter, mem_setOf]
  refine and_congr_right fun _ => ?_
  rw [Bool.not_eq_true', List.any_eq_false]
  constructor
  · intro h o ho ne
    have := h o (mem_setOf.mpr ho)
    cases e : isOver r o with
    | false => rfl
    | true => exact absurd (by rw [e, Bool.and_true]; exact decide_eq_true ne) this
  · intro h o ho z
    rw [Bool.and_eq_true, decide_eq_true_eq] at z
    rw [h o (mem_setOf.mp ho) z.1] at z
    exact Bool.false_ne_true z.2
theorem min_below {α : Type} (lt : α → α → Bool) (l : List α) (tr : ∀ a ∈ l, ∀ b ∈ l, ∀ c ∈ l, lt a b = true → lt b c = true → lt a c = true) (ir : ∀ a, lt a a = false) : ∀ (n : Nat) (r : α), r ∈ l → (l.filter (lt r)).length ≤ n → ∃ m ∈ l, (m = r ∨ lt r m = true) ∧ ∀ x ∈ l, lt m x = false := by
  intro n
  induction n with
  | zero =>
    intro r hr hn
    refine ⟨r, hr, .inl rfl, fun x hx => ?_⟩
    cases e : lt r x with
    | false => rfl
    | true =>
      have := List.length_pos_of_mem (List.mem_filter.mpr ⟨hx, e⟩)
      omega
  | succ n ih =>
    intro r hr hn
    by_cases h : ∃ x ∈ l, lt r x = true
    · obtain ⟨x, hx, e⟩ := h
      have sub : l.filter (lt x) = (l.filter (lt r)).filter (lt x) := by
        rw [List.filter_filter]
        refine List.filter_congr fun y hy => ?_
        cases e2 : lt x y with
        | false => simp
        | true => rw [tr r hr x hx y hy e e2]; rfl
      have less : ((l.filter (lt r)).filter (lt x)).length < (l.filter (lt r)).length :=
        List.length_filter_lt_length_iff_exists.mpr ⟨x, List.mem_filter.mpr ⟨hx, e⟩, by simp [ir]⟩
      obtain ⟨m, hm, h1, h2⟩ := ih x hx (by rw [sub]; omega)
      refine ⟨m, hm, .inr ?_, h2⟩
      rcases h1 with rfl | h1
      · exact e
      · exact tr r hr x hx m hm e h1
    · refine ⟨r, hr, .inl rfl, fun x hx => ?_⟩
      cases e : lt r x with
      | false => rfl
      | true => exact absurd ⟨x, hx, e⟩ h
theorem least_below {f : List Row} (c : Goods f) {r : Row} (hr : r ∈ f) : ∃ m ∈ leastOf f, m = r ∨ isOver r m = true := by
  obtain ⟨m, hm, h1, h2⟩ := min_below (fun a b => decide (a ≠ b) && isOver a b) f (fun a ha b hb q hq h1 h2 => by
    rw [Bool.and_eq_true, decide_eq_true_eq] at h1 h2 ⊢
    refine ⟨fun e => ?_, over_trans (c a ha).canon.nd (c b hb).canon.nd h1.2 h2.2⟩
    subst e
    exact h1.1 (over_anti (c a ha).canon (c b hb).canon h1.2 h2.2)) (fun a => by simp) _ r hr (Nat.le_refl _)
  refine ⟨m, mem_least.mpr ⟨hm, fun o ho ne => ?_⟩, ?_⟩
  · have := h2 o ho
    cases e : isOver m o with
    | false => rfl
    | true =>
      rw [e, Bool.and_true] at this
      exact absurd ne (of_decide_eq_false this)
  · rcases h1 with h | h
    · exact .inl h
    · rw [Bool.and_eq_true] at h
      exact .inr h.2
theorem least_due {f : List Row} (c : Goods f) (g : Spot → Option Int) (T : Int) : SomeDue g T (leastOf f) ↔ SomeDue g T f := by
  constructor
  · intro ⟨r, hr, d⟩
    exact ⟨r, (mem_least.mp hr).1, d⟩
  · intro ⟨r, hr, d⟩
    obtain ⟨m, hm, h⟩ := least_below c hr
    refine ⟨m, hm, ?_⟩
    rcases h with rfl | h
    · exact d
    · exact over_due (c r hr).canon.nd h d
theorem least_goods {f : List Row} (c : Goods f) : Goods (leastOf f) := fun r hr => c r (mem_least.mp hr).1
theorem or_due {g : Spot → Option Int} {T : Int} {e f : List Row} : SomeDue g T (e ++ f) ↔ SomeDue g T e ∨ SomeDue g T f := by
  unfold SomeDue
  constructor
  · intro ⟨r, hr, d⟩
    rcases List.mem_append.mp hr with h | h
    · exact .inl ⟨r, h, d⟩
    · exact .inr ⟨r, h, d⟩
  · intro h
    rcases h with ⟨r, hr, d⟩ | ⟨r, hr, d⟩
    · exact ⟨r, List.mem_append_left _ hr, d⟩
    · exact ⟨r, List.mem_append_right _ hr, d⟩
theorem app_goods {e f : List Row} (h : Goods e) (k : Goods f) : Goods (e ++ f) := fun r hr => by
  rcases List.mem_append.mp hr with z | z
  · exact h r z
  · exact k r z
/-! ### later rows -/
theorem after_due (g : Spot → Option Int) (T w : Int) (r : Row) : Due g T (r.map fun p => (p.1, p.2 + w)) ↔ Due g (T - w) r := by
  unfold Due
  constructor
  · intro h p hp
    obtain ⟨t, e, l⟩ := h _ (List.mem_map.mpr ⟨p, hp, rfl⟩)
    exact ⟨t, e, by simp only at l; omega⟩
  · intro h p hp
    obtain ⟨q, hq, rfl⟩ := List.mem_map.mp hp
    obtain ⟨t, e, l⟩ := h q hq
    exact ⟨t, e, by show t + (q.2 + w) ≤ T; omega⟩
theorem afterF_due (g : Spot → Option Int) (T w : Int) (f : List Row) : SomeDue g T (afterF f w) ↔ SomeDue g (T - w) f := by
  unfold SomeDue afterF
  constructor
  · intro ⟨r, hr, d⟩
    obtain ⟨q, hq, rfl⟩ := List.mem_map.mp hr
    exact ⟨q, hq, (after_due g T w q).mp d⟩
  · intro ⟨r, hr, d⟩
    exact ⟨_, List.mem_map.mpr ⟨r, hr, rfl⟩, (after_due g T w r).mpr d⟩
theorem after_good {r : Row} {w : Int} (hw : 0 ≤ w) (h : Good r) : Good (r.map fun p => (p.1, p.2 + w)) := by
  refine ⟨?_, fun p hp => ?_, by simpa using h.ne⟩
  · have : (r.map fun p => (p.1, p.2 + w)).map (·.1) = r.map (·.1) := by rw [List.map_map]; rfl
    unfold Canon
    rw [this]
    exact h.canon
  · obtain ⟨q, hq, rfl⟩ := List.mem_map.mp hp
    have := h.nn q hq
    show 0 ≤ q.2 + w
    omega
theorem afterF_goods {f : List Row} {w : Int} (hw : 0 ≤ w) (h : Goods f) : Goods (afterF f w) := fun r hr => by
  obtain ⟨q, hq, rfl⟩ := List.mem_map.mp hr
  exact after_good hw (h q hq)
/-! ### two rows in one -/
theorem mix_get : ∀ (o acc : Row), (o.map (·.1)).Nodup → ∀ k, getS (o.foldl mixS acc) k = match getS o k with
    | some v => some (max v ((getS acc k).getD 0))
    | none => getS acc k
  | [], _, _, _ => rfl
  | p :: o, acc, h, k => by
    rw [List.map_cons, List.nodup_cons] at h
    rw [List.foldl_cons, mix_get o _ h.2, getS_cons]
    unfold mixS
    rw [getS_putS]
    by_cases e : p.1 = k
    · subst e
      rw [if_pos rfl, if_pos rfl, getS_none.mpr h.1]
    · rw [if_neg e, if_neg e]
theorem mix_nd : ∀ (o acc : Row), (acc.map (·.1)).Nodup → ((o.foldl mixS acc).map (·.1)).Nodup
  | [], _, h => h
  | p :: o, acc, h => mix_nd o _ (putS_nd _ _ h)
theorem dict_nd {r : Row} (b : Row) : ((b.foldl mixS (dictS r)).map (·.1)).Nodup := mix_nd b _ (dictS_nd r)
theorem due_get {g : Spot → Option Int} {T : Int} {r : Row} (nd : (r.map (·.1)).Nodup) : Due g T r ↔ ∀ k v, getS r k = some v → ∃ t, g k = some t ∧ t + v ≤ T := by
  constructor
  · intro h k v e
    exact h _ (getS_mem e)
  · intro h p hp
    exact h p.1 p.2 ((getS_iff nd).mpr hp)
theorem nn_get {r : Row} (h : NN r) {k : Spot} {v : Int} (e : getS r k = some v) : 0 ≤ v := h _ (getS_mem e)
theorem mix_due {g : Spot → Option Int} {T : Int} {r o : Row} (a : Good r) (b : Good o) : Due g T (o.foldl mixS (dictS r)) ↔ Due g T r ∧ Due g T o := by
  rw [due_get (dict_nd o), due_get a.canon.nd, due_get b.canon.nd]
  have eq : ∀ k, getS (o.foldl mixS (dictS r)) k = match getS o k with
    | some v => some (max v ((getS r k).getD 0))
    | none => getS r k := fun k => by rw [mix_get o _ b.canon.nd, dict_get a.canon.nd]
  constructor
  · intro h
    refine ⟨fun k v e => ?_, fun k v e => ?_⟩
    · cases e2 : getS o k with
      | none => exact h k v (by rw [eq, e2]; exact e)
      | some u =>
        obtain ⟨t, h1, h2⟩ := h k (max u v) (by rw [eq, e2, e]; rfl)
        exact ⟨t, h1, by omega⟩
    · obtain ⟨t, h1, h2⟩ := h k _ (by rw [eq, e])
      exact ⟨t, h1, by omega⟩
  · intro ⟨h1, h2⟩ k v e
    rw [eq] at e
    cases e2 : getS o k with
    | none => rw [e2] at e; exact h1 k v e
    | some u =>
      rw [e2] at e
      obtain ⟨t, a1, a2⟩ := h2 k u e2
      have nn := nn_get b.nn e2
      cases e3 : getS r k with
      | none =>
        rw [e3] at e
        have e4 : max u 0 = v := Option.some.inj e
        exact ⟨t, a1, by omega⟩
      | some x =>
        rw [e3] at e
        have e4 : max u x = v := Option.some.inj e
        obtain ⟨t', b1, b2⟩ := h1 k x e3
        rw [a1] at b1
        have := Option.some.inj b1
        exact ⟨t, a1, by omega⟩
theorem joined_mem (r o : Row) (p : Pr) : p ∈ joinedR r o ↔ p ∈ o.foldl mixS (dictS r) := (dsort_perm ePair _).mem_iff
theorem meet_mem (r o : Row) (p : Pr) : p ∈ meetRow r o ↔ p ∈ o.foldl mixS (dictS r) := by
  unfold meetRow
  rw [List.mem_map]
  constructor
  · intro ⟨s, hs, e⟩
    obtain ⟨q, hq, rfl⟩ := List.mem_map.mp ((dsort_perm eSpot _).mem_iff.mp hs)
    rw [(getS_iff (dict_nd o)).mpr (show (q.1, q.2) ∈ _ from hq)] at e
    rw [← e]
    exact hq
  · intro hp
    refine ⟨p.1, (dsort_perm eSpot _).mem_iff.mpr (List.mem_map.mpr ⟨p, hp, rfl⟩), ?_⟩
    rw [(getS_iff (dict_nd o)).mpr (show (p.1, p.2) ∈ _ from hp)] <;> rfl
theorem due_same {g : Spot → Option Int} {T : Int} {r o : Row} (h : ∀ p, p ∈ r ↔ p ∈ o) : Due g T r ↔ Due g T o := by
  unfold Due
  exact ⟨fun k p hp => k p ((h p).mpr hp), fun k p hp => k p ((h p).mp hp)⟩
theorem joined_due {g : Spot → Option Int} {T : Int} {r o : Row} (a : Good r) (b : Good o) : Due g T (joinedR r o) ↔ Due g T r ∧ Due g T o :=
  (due_same (joined_mem r o)).trans (mix_due a b)
theorem mix_nn {r o : Row} (a : Good r) (b : Good o) : NN (o.foldl mixS (dictS r)) := fun p hp => by
  have e := (getS_iff (dict_nd (r := r) o)).mpr (show (p.1, p.2) ∈ _ from hp)
  rw [mix_get o _ b.canon.nd, dict_get a.canon.nd] at e
  cases e2 : getS o p.1 with
  | none => rw [e2] at e; exact nn_get a.nn e
  | some u =>
    rw [e2] at e
    have := nn_get b.nn e2
    have e4 := Option.some.inj e
    omega
theorem joined_canon (r o : Row) : Canon (joinedR r o) := by
  have pm := dsort_perm ePair (o.foldl mixS (dictS r))
  have nd : ((joinedR r o).map (·.1)).Nodup := (pm.map (·.1)).nodup_iff.mpr (dict_nd o)
  have so := dsort_sorted ePair (o.foldl mixS (dictS r))
  refine strict_of nd (List.pairwise_map.mpr (so.imp fun {p q} h => ?_))
  rw [dle_pair] at h
  rw [dle_spot]
  omega
theorem joined_good {r o : Row} (a : Good r) (b : Good o) : Good (joinedR r o) :=
  ⟨joined_canon r o, fun p hp => mix_nn a b p ((joined_mem r o p).mp hp), joined_pos a.ne⟩
theorem both_mem {f e : List Row} {x : Row} : x ∈ (f.flatMap fun r => e.map fun m => joinedR r m) ↔ ∃ r ∈ f, ∃ m ∈ e, x = joinedR r m := by
  rw [List.mem_flatMap]
  constructor
  · intro ⟨r, hr, h⟩
    obtain ⟨m, hm, z⟩ := List.mem_map.mp h
    exact ⟨r, hr, m, hm, z.symm⟩
  · intro ⟨r, hr, m, hm, z⟩
    exact ⟨r, hr, List.mem_map.mpr ⟨m, hm, z.symm⟩⟩
theorem boths_goods {f e : List Row} (a : Goods f) (b : Goods e) : Goods (f.flatMap fun r => e.map fun m => joinedR r m) := fun x hx => by
  obtain ⟨r, hr, m, hm, rfl⟩ := both_mem.mp hx
  exact joined_good (a r hr) (b m hm)
theorem both_due {f e : List Row} (a : Goods f) (b : Goods e) (g : Spot → Option Int) (T : Int) : SomeDue g T (bothF f e) ↔ SomeDue g T f ∧ SomeDue g T e := by
  unfold bothF
  rw [least_due (boths_goods a b)]
  constructor
  · intro ⟨x, hx, d⟩
    obtain ⟨r, hr, m, hm, rfl⟩ := both_mem.mp hx
    have := (joined_due (a r hr) (b m hm)).mp d
    exact ⟨⟨r, hr, this.1⟩, ⟨m, hm, this.2⟩⟩
  · intro ⟨⟨r, hr, d⟩, ⟨m, hm, d2⟩⟩
    exact ⟨_, both_mem.mpr ⟨r, hr, m, hm, rfl⟩, (joined_due (a r hr) (b m hm)).mpr ⟨d, d2⟩⟩
theorem either_due {f e : List Row} (a : Goods f) (b : Goods e) (g : Spot → Option Int) (T : Int) : SomeDue g T (eitherF f e) ↔ SomeDue g T f ∨ SomeDue g T e := by
  unfold eitherF
  rw [least_due (app_goods a b), or_due]
/-! ### rows of zones -/
theorem mem_pairs {ss : List Spot} {r : Row} : r ∈ pairsOf ss ↔ ∃ a b, r = [(a, 0), (b, 0)] ∧ [a, b].Sublist ss := by
  unfold pairsOf
  rw [List.mem_flatMap]
  constructor
  · intro ⟨y, hy, h⟩
    obtain ⟨b, hb, rfl⟩ := List.mem_map.mp h
    have e := zip_at hy
    refine ⟨y.1, b, rfl, ?_⟩
    have hl : y.2 < ss.length := (List.getElem?_eq_some_iff.mp e).1
    have h3 : ss.drop y.2 = y.1 :: ss.drop (y.2 + 1) := by
      rw [List.drop_eq_getElem_cons hl, (List.getElem?_eq_some_iff.mp e).2]
    refine List.Sublist.trans ?_ (List.drop_sublist y.2 ss)
    rw [h3]
    exact (List.singleton_sublist.mpr hb).cons₂ _
  · intro ⟨a, b, e, h⟩
    obtain ⟨r1, r2, e1, h1, h2⟩ := List.cons_sublist_iff.mp h
    obtain ⟨s, t, rfl⟩ := List.append_of_mem h1
    have hb : b ∈ r2 := List.singleton_sublist.mp h2
    subst e e1
    refine ⟨(a, s.length), ?_, List.mem_map.mpr ⟨b, ?_, rfl⟩⟩
    · rw [List.mem_zipIdx_iff_getElem?]
      simp
    · have e2 : (s ++ a :: t ++ r2) = (s ++ [a]) ++ (t ++ r2) := by simp
      show b ∈ (s ++ a :: t ++ r2).drop (s.length + 1)
      rw [e2, List.drop_left' (by simp)]
      exact List.mem_append_right _ hb
theorem two_of {P : Spot → Bool} {ss : List Spot} : 2 ≤ (ss.filter P).length ↔ ∃ a b, [a, b].Sublist ss ∧ P a = true ∧ P b = true := by
  constructor
  · intro h
    match e : ss.filter P, h with
    | a :: b :: l, _ =>
      have ha : a ∈ ss.filter P := by rw [e]; exact List.mem_cons_self
      have hb : b ∈ ss.filter P := by rw [e]; exact List.mem_cons_of_mem _ List.mem_cons_self
      refine ⟨a, b, List.Sublist.trans ?_ (List.filter_sublist (p := P)), (List.mem_filter.mp ha).2, (List.mem_filter.mp hb).2⟩
      rw [e]
      exact (List.singleton_sublist.mpr List.mem_cons_self).cons₂ _
  · intro ⟨a, b, h, pa, pb⟩
    have := (h.filter P).length_le
    rw [List.filter_cons, if_pos pa, List.filter_cons, if_pos pb] at this
    exact this
theorem due1 {g : Spot → Option Int} {T : Int} {a : Spot} : Due g T [(a, 0)] ↔ LeO (g a) T := by
  unfold Due LeO
  simp
theorem due2 {g : Spot → Option Int} {T : Int} {a b : Spot} : Due g T [(a, 0), (b, 0)] ↔ LeO (g a) T ∧ LeO (g b) T := by
  unfold Due LeO
  simp
theorem knock_mem {ss : List Spot} {n : Int} (hn : n = 1 ∨ n = 2) {r : Row} : r ∈ knockForm ss n ↔ (n = 1 ∧ ∃ a ∈ ss, r = [(a, 0)]) ∨ (n = 2 ∧ ∃ a b, r = [(a, 0), (b, 0)] ∧ [a, b].Sublist ss) := by
  unfold knockForm
  rcases hn with rfl | rfl
  · rw [if_pos rfl, List.mem_map]
    simp only [true_and]
    constructor
    · intro ⟨a, ha, e⟩; exact .inl ⟨a, ha, e.symm⟩
    · intro h
      rcases h with ⟨a, ha, e⟩ | h
      · exact ⟨a, ha, e.symm⟩
      · exact absurd h.1 (by decide)
  · rw [if_neg (by decide), mem_setOf, mem_pairs]
    constructor
    · intro h; exact .inr ⟨rfl, h⟩
    · intro h
      rcases h with h | h
      · exact absurd h.1 (by decide)
      · exact h.2
theorem knock_due {ss : List Spot} {n : Int} (hn : n = 1 ∨ n = 2) (g : Spot → Option Int) (T : Int) : LeO (kthI (ss.map g) n) T ↔ SomeDue g T (knockForm ss n) := by
  unfold kthI SomeDue
  rcases hn with rfl | rfl
  · rw [show (1 : Int).toNat = 1 from rfl, kth1_le]
    constructor
    · intro ⟨o, ho, l⟩
      obtain ⟨a, ha, rfl⟩ := List.mem_map.mp ho
      exact ⟨_, (knock_mem (.inl rfl)).mpr (.inl ⟨rfl, a, ha, rfl⟩), due1.mpr l⟩
    · intro ⟨r, hr, d⟩
      rcases (knock_mem (.inl rfl)).mp hr with ⟨_, a, ha, rfl⟩ | h
      · exact ⟨_, List.mem_map.mpr ⟨a, ha, rfl⟩, due1.mp d⟩
      · exact absurd h.1 (by decide)
  · rw [show (2 : Int).toNat = 1 + 1 from rfl, kth_le, List.filter_map, List.length_map, two_of]
    constructor
    · intro ⟨a, b, h, pa, pb⟩
      exact ⟨_, (knock_mem (.inr rfl)).mpr (.inr ⟨rfl, a, b, rfl, h⟩), due2.mpr ⟨leB_iff.mp pa, leB_iff.mp pb⟩⟩
    · intro ⟨r, hr, d⟩
      rcases (knock_mem (.inr rfl)).mp hr with h | ⟨_, a, b, rfl, h⟩
      · exact absurd h.1 (by decide)
      · exact ⟨a, b, h, leB_iff.mpr (due2.mp d).1, leB_iff.mpr (due2.mp d).2⟩
theorem knock_goods {ss : List Spot} {n : Int} (hn : n = 1 ∨ n = 2) (s : ss.Pairwise sLt) : Goods (knockForm ss n) := fun r hr => by
  rcases (knock_mem hn).mp hr with ⟨_, a, ha, rfl⟩ | ⟨_, a, b, rfl, h⟩
  · refine ⟨List.pairwise_singleton _ _, fun p hp => ?_, by simp⟩
    rw [List.mem_singleton] at hp
    subst hp
    exact Int.le_refl 0
  · refine ⟨s.sublist h, fun p hp => ?_, by simp⟩
    simp only [List.mem_cons, List.not_mem_nil, or_false] at hp
    rcases hp with rfl | rfl <;> exact Int.le_refl 0
theorem knock_sub {ss : List Spot} {n : Int} (hn : n = 1 ∨ n = 2) {r : Row} (hr : r ∈ knockForm ss n) : ∀ p ∈ r, p.1 ∈ ss := fun p hp => by
  rcases (knock_mem hn).mp hr with ⟨_, a, ha, rfl⟩ | ⟨_, a, b, rfl, h⟩
  · rw [List.mem_singleton] at hp
    subst hp
    exact ha
  · simp only [List.mem_cons, List.not_mem_nil, or_false] at hp
    rcases hp with rfl | rfl
    · exact h.subset List.mem_cons_self
    · exact h.subset (List.mem_cons_of_mem _ List.mem_cons_self)
end Sk
set_option maxHeartbeats 4000000
/-! Mt3: zones, lines, outs: out on by T = some row due by T; the law's rows. -/
namespace Sk
open PySem PySem.Spec PyProof.Rows L2 PySem.W
structure Fine (h : House) : Prop where
  zones : ∀ z ∈ h.zones, ZoneOk (feelersOf h) z
  lines : ∀ l ∈ h.lines, LineV h.zones.length l
theorem HouseOk.fine {pn : Nat} {h : House} (o : HouseOk pn h) : Fine h := ⟨o.zones, o.lines⟩
theorem ZoneOk.strict {fs : List Spot} {z : Zone} (o : ZoneOk fs z) : z.1.Pairwise sLt := strict_of o.nd o.sorted
theorem ZoneOk.kn {fs : List Spot} {z : Zone} (o : ZoneOk fs z) : z.2 = 1 ∨ z.2 = 2 := o.knocks.imp id fun h => h.1
theorem without_nil (f : List Row) : withoutF f [] = f := by
  unfold withoutF
  exact List.filter_eq_self.mpr fun r _ => by simp
theorem zoneAt_some {h : House} {n : Nat} {z : Zone} (e : h.zones[n]? = some z) : zoneAt h n = knockForm z.1 z.2 := by
  unfold zoneAt
  rw [e]
  exact without_nil _
theorem zone_get {h : House} {n : Nat} (hn : n < h.zones.length) : ∃ z ∈ h.zones, h.zones[n]? = some z := ⟨h.zones[n], List.getElem_mem hn, List.getElem?_eq_getElem hn⟩
def gOf (b : Row) (s : Spot) : Option Int := getS (dictS b) s
theorem zoneAt_goods {h : House} (o : Fine h) {n : Nat} (hn : n < h.zones.length) : Goods (zoneAt h n) := by
  obtain ⟨z, hz, e⟩ := zone_get hn
  rw [zoneAt_some e]
  exact knock_goods (o.zones z hz).kn (o.zones z hz).strict
theorem zone_due {h : House} (o : Fine h) {n : Nat} (hn : n < h.zones.length) (b : Row) (T : Int) : LeO ((hoursOf h b)[n]?).join T ↔ SomeDue (gOf b) T (zoneAt h n) := by
  obtain ⟨z, hz, e⟩ := zone_get hn
  rw [zoneAt_some e]
  unfold hoursOf
  rw [List.getElem?_map, e]
  exact knock_due (o.zones z hz).kn (gOf b) T
theorem zoneAt_sub {h : House} (o : Fine h) {n : Nat} (hn : n < h.zones.length) {r : Row} (hr : r ∈ zoneAt h n) : ∀ p ∈ r, p.1 ∈ feelersOf h := fun p hp => by
  obtain ⟨z, hz, e⟩ := zone_get hn
  rw [zoneAt_some e] at hr
  exact (o.zones z hz).sub _ (knock_sub (o.zones z hz).kn hr p hp)
/-! ### the law's rows of a zone -/
theorem perm2 (a b : Spot) : [a, b].Perm [b, a] := List.Perm.swap _ _ _
theorem sort2 {a b : Spot} (h : sLt a b) : dsort eSpot [a, b] = [a, b] ∧ dsort eSpot [b, a] = [a, b] := by
  have s : [a, b].Pairwise fun x y => dle eSpot x y = true := by simp [sLt_le h]
  exact ⟨kind_spot.unique (dsort_sorted _ _) s (dsort_perm _ _), kind_spot.unique (dsort_sorted _ _) s ((dsort_perm _ _).trans (perm2 b a))⟩
theorem mix2 {a b : Spot} (h : a ≠ b) : [((b, 0) : Pr)].foldl mixS (dictS [(a, 0)]) = [(a, 0), (b, 0)] := by
  have e1 : dictS [((a, 0) : Pr)] = [(a, 0)] := rfl
  rw [e1, List.foldl_cons, List.foldl_nil]
  unfold mixS putS
  rw [if_neg (by simp [h])]
  rw [getS_cons, if_neg h, getS_nil]
  rfl
theorem mix1 (a : Spot) : [((a, 0) : Pr)].foldl mixS (dictS [(a, 0)]) = [(a, 0)] := by
  have e1 : dictS [((a, 0) : Pr)] = [(a, 0)] := rfl
  rw [e1, List.foldl_cons, List.foldl_nil]
  unfold mixS putS
  rw [if_pos (by simp)]
  rw [getS_cons, if_pos rfl]
  simp
theorem meet_lt {a b : Spot} (h : sLt a b) : meetRow [(a, 0)] [(b, 0)] = [(a, 0), (b, 0)] ∧ meetRow [(b, 0)] [(a, 0)] = [(a, 0), (b, 0)] := by
  have ne := sLt_ne h
  refine ⟨?_, ?_⟩
  · unfold meetRow
    rw [mix2 ne]
    show (dsort eSpot [a, b]).map _ = _
    rw [(sort2 h).1]
    simp [getS_cons, ne]
  · unfold meetRow
    rw [mix2 ne.symm]
    show (dsort eSpot [b, a]).map _ = _
    rw [(sort2 h).2]
    simp [getS_cons, ne, ne.symm]
theorem meet_eq_len (a : Spot) : (meetRow [(a, 0)] [(a, 0)]).length = 1 := by
  unfold meetRow
  rw [mix1, List.length_map, dsort_len]
  rfl
theorem tri (a b : Spot) : a = b ∨ sLt a b ∨ sLt b a := by
  unfold sLt
  rcases Int.lt_trichotomy a.1 b.1 with h | h | h
  · exact .inr (.inl (.inl h))
  · rcases Int.lt_trichotomy a.2 b.2 with k | k | k
    · exact .inr (.inl (.inr ⟨h, k⟩))
    · exact .inl (Prod.ext h k)
    · exact .inr (.inr (.inr ⟨h.symm, k⟩))
  · exact .inr (.inr (.inl h))
theorem sLt_asymm {a b : Spot} (h : sLt a b) (k : sLt b a) : False := by
  unfold sLt at h k
  omega
theorem sub2 {l : List Spot} (s : l.Pairwise sLt) {a b : Spot} (ha : a ∈ l) (hb : b ∈ l) (h : sLt a b) : [a, b].Sublist l := by
  obtain ⟨p, t, rfl⟩ := List.append_of_mem ha
  rcases List.mem_append.mp hb with hb | hb
  · exact (sLt_asymm h ((List.pairwise_append.mp s).2.2 b hb a List.mem_cons_self)).elim
  · rcases List.mem_cons.mp hb with rfl | hb
    · exact absurd rfl (sLt_ne h)
    · exact List.Sublist.trans ((List.singleton_sublist.mpr hb).cons₂ a) (List.sublist_append_right _ _)
theorem mem_ones {ss : List Spot} {r : Row} : r ∈ onesOf ss ↔ ∃ a ∈ ss, r = [(a, 0)] := by
  unfold onesOf
  rw [List.mem_map]
  exact ⟨fun ⟨a, h, e⟩ => ⟨a, h, e.symm⟩, fun ⟨a, h, e⟩ => ⟨a, h, e.symm⟩⟩
theorem mem_meets {f g : List Row} {x : Row} : x ∈ meetRows f g ↔ ∃ r ∈ f, ∃ m ∈ g, x = meetRow r m := by
  unfold meetRows
  rw [List.mem_flatMap]
  constructor
  · intro ⟨r, hr, h⟩
    obtain ⟨m, hm, z⟩ := List.mem_map.mp h
    exact ⟨r, hr, m, hm, z.symm⟩
  · intro ⟨r, hr, m, hm, z⟩
    exact ⟨r, hr, List.mem_map.mpr ⟨m, hm, z.symm⟩⟩
theorem zoneRows_mem {z : Zone} (s : z.1.Pairwise sLt) (kn : z.2 = 1 ∨ z.2 = 2) (r : Row) : r ∈ zoneRows z ↔ r ∈ knockForm z.1 z.2 := by
  unfold zoneRows
  rw [knock_mem kn]
  rcases kn with e | e
  · rw [if_pos e, mem_ones, e]
    simp
  · rw [if_neg (by rw [e]; decide), List.mem_filter, mem_meets, e, decide_eq_true_eq]
    constructor
    · intro ⟨⟨x, hx, y, hy, e1⟩, hl⟩
      obtain ⟨a, ha, rfl⟩ := mem_ones.mp hx
      obtain ⟨b, hb, rfl⟩ := mem_ones.mp hy
      refine .inr ⟨rfl, ?_⟩
      rcases tri a b with rfl | h | h
      · rw [e1, meet_eq_len] at hl
        omega
      · exact ⟨a, b, by rw [e1, (meet_lt h).1], sub2 s ha hb h⟩
      · exact ⟨b, a, by rw [e1, (meet_lt h).2], sub2 s hb ha h⟩
    · intro h
      rcases h with h | ⟨_, a, b, rfl, h⟩
      · exact absurd h.1 (by decide)
      · have lt : sLt a b := by
          have := s.sublist h
          simpa using this
        exact ⟨⟨_, mem_ones.mpr ⟨a, h.subset List.mem_cons_self, rfl⟩, _, mem_ones.mpr ⟨b, h.subset (List.mem_cons_of_mem _ List.mem_cons_self), rfl⟩, (meet_lt lt).1.symm⟩, rfl⟩
theorem zoneRowsAt_mem {h : House} (o : Fine h) {n : Nat} (hn : n < h.zones.length) (r : Row) : r ∈ zoneRowsAt h n ↔ r ∈ zoneAt h n := by
  obtain ⟨z, hz, e⟩ := zone_get hn
  rw [zoneAt_some e]
  unfold zoneRowsAt
  rw [e]
  exact zoneRows_mem (o.zones z hz).strict (o.zones z hz).kn r
/-! ### lines -/
theorem le_wait {o : Option Int} {w T : Int} : LeO (o.map (· + w)) T ↔ LeO o (T - w) := by
  cases o with
  | none => exact ⟨fun h => absurd h leO_none, fun h => absurd h leO_none⟩
  | some t =>
    show LeO (some (t + w)) T ↔ _
    rw [leO_some, leO_some]
    omega
/-- one zone asked, or two -/
theorem zs_cases {n : Nat} {l : Line} (v : LineV n l) : (∃ a, l.zs = [a] ∧ a < n) ∨ ∃ a b, l.zs = [a, b] ∧ a < n ∧ b < n := by
  have h1 := v.ne
  have h2 := v.le
  have h3 := v.lt
  match e : l.zs with
  | [] => rw [e] at h1; simp at h1
  | [a] => exact .inl ⟨a, rfl, h3 a (by rw [e]; simp)⟩
  | [a, b] => exact .inr ⟨a, b, rfl, h3 a (by rw [e]; simp), h3 b (by rw [e]; simp)⟩
  | a :: b :: c :: r => rw [e] at h2; simp only [List.length_cons] at h2; omega
theorem lineForm1 {h : House} {l : Line} {a : Nat} (e : l.zs = [a]) : lineForm h l = afterF (zoneAt h a) l.wait := by
  unfold lineForm
  rw [e]
  rfl
theorem lineForm2 {h : House} {l : Line} {a b : Nat} (e : l.zs = [a, b]) : lineForm h l = afterF (if l.any then eitherF (zoneAt h a) (zoneAt h b) else bothF (zoneAt h a) (zoneAt h b)) l.wait := by
  unfold lineForm
  rw [e]
  rfl
theorem lineRows1 {h : House} {l : Line} {a : Nat} (e : l.zs = [a]) : lineRows h l = afterF (zoneRowsAt h a) l.wait := by
  unfold lineRows
  rw [e]
  rfl
theorem lineRows2 {h : House} {l : Line} {a b : Nat} (e : l.zs = [a, b]) : lineRows h l = afterF (if l.any then zoneRowsAt h a ++ zoneRowsAt h b else meetRows (zoneRowsAt h a) (zoneRowsAt h b)) l.wait := by
  unfold lineRows
  rw [e]
  rfl
theorem both_goods {f e : List Row} (a : Goods f) (b : Goods e) : Goods (bothF f e) := least_goods (boths_goods a b)
theorem either_goods {f e : List Row} (a : Goods f) (b : Goods e) : Goods (eitherF f e) := least_goods (app_goods a b)
theorem line_goods {h : House} (o : Fine h) {l : Line} (hl : l ∈ h.lines) : Goods (lineForm h l) := by
  have v := o.lines l hl
  rcases zs_cases v with ⟨a, e, ha⟩ | ⟨a, b, e, ha, hb⟩
  · rw [lineForm1 e]
    exact afterF_goods v.wait.1 (zoneAt_goods o ha)
  · rw [lineForm2 e]
    refine afterF_goods v.wait.1 ?_
    split
    · exact either_goods (zoneAt_goods o ha) (zoneAt_goods o hb)
    · exact both_goods (zoneAt_goods o ha) (zoneAt_goods o hb)
theorem kth_both (a b : Option Int) (T : Int) : LeO (kth [a, b] 2) T ↔ LeO a T ∧ LeO b T := by
  rw [kth_le [a, b] 1 T, ← leB_iff, ← leB_iff]
  cases ha : leB T a <;> cases hb : leB T b <;> simp [List.filter_cons, ha, hb]
theorem line_due {h : House} (o : Fine h) {l : Line} (hl : l ∈ h.lines) (b : Row) (T : Int) : LeO (lineEnd l (hoursOf h b)) T ↔ SomeDue (gOf b) T (lineForm h l) := by
  have v := o.lines l hl
  unfold lineEnd lineBegin
  rw [le_wait]
  rcases zs_cases v with ⟨a, e, ha⟩ | ⟨a, c, e, ha, hc⟩
  · rw [lineForm1 e, afterF_due, e, ← zone_due o ha]
    have e2 : (if l.any = true then 1 else [a].length) = 1 := by split <;> rfl
    rw [e2, kth1_le]
    simp
  · rw [lineForm2 e, afterF_due, e]
    cases hany : l.any with
    | true =>
      rw [if_pos rfl, if_pos rfl, kth1_le, either_due (zoneAt_goods o ha) (zoneAt_goods o hc), ← zone_due o ha, ← zone_due o hc]
      simp
    | false =>
      rw [if_neg Bool.false_ne_true, if_neg Bool.false_ne_true, both_due (zoneAt_goods o ha) (zoneAt_goods o hc), ← zone_due o ha, ← zone_due o hc]
      exact kth_both _ _ _
theorem after_sub {f : List Row} {w : Int} {fs : List Spot} (h : ∀ r ∈ f, ∀ p ∈ r, p.1 ∈ fs) : ∀ r ∈ afterF f w, ∀ p ∈ r, p.1 ∈ fs := fun r hr p hp => by
  obtain ⟨q, hq, rfl⟩ := List.mem_map.mp hr
  obtain ⟨x, hx, rfl⟩ := List.mem_map.mp hp
  exact h q hq x hx
theorem mix_key {r o : Row} (nd : (o.map (·.1)).Nodup) (nr : (r.map (·.1)).Nodup) {p : Pr} (hp : p ∈ o.foldl mixS (dictS r)) : p.1 ∈ r.map (·.1) ∨ p.1 ∈ o.map (·.1) := by
  have e := (getS_iff (dict_nd (r := r) o)).mpr (show (p.1, p.2) ∈ _ from hp)
  rw [mix_get o _ nd, dict_get nr] at e
  cases e2 : getS o p.1 with
  | none =>
    rw [e2] at e
    exact .inl (List.mem_map.mpr ⟨_, getS_mem e, rfl⟩)
  | some u => exact .inr (List.mem_map.mpr ⟨_, getS_mem e2, rfl⟩)
theorem line_sub {h : House} (o : Fine h) {l : Line} (hl : l ∈ h.lines) : ∀ r ∈ lineForm h l, ∀ p ∈ r, p.1 ∈ feelersOf h := by
  have v := o.lines l hl
  rcases zs_cases v with ⟨a, e, ha⟩ | ⟨a, c, e, ha, hc⟩
  · rw [lineForm1 e]
    exact after_sub fun r hr => zoneAt_sub o ha hr
  · rw [lineForm2 e]
    refine after_sub fun r hr p hp => ?_
    split at hr
    · rcases List.mem_append.mp (mem_least.mp hr).1 with hr | hr
      · exact zoneAt_sub o ha hr p hp
      · exact zoneAt_sub o hc hr p hp
    · obtain ⟨x, hx, y, hy, rfl⟩ := both_mem.mp (mem_least.mp hr).1
      rcases mix_key (zoneAt_goods o hc y hy).canon.nd (zoneAt_goods o ha x hx).canon.nd ((joined_mem x y p).mp hp) with z | z
      · obtain ⟨q, hq, e⟩ := List.mem_map.mp z
        rw [← e]
        exact zoneAt_sub o ha hx q hq
      · obtain ⟨q, hq, e⟩ := List.mem_map.mp z
        rw [← e]
        exact zoneAt_sub o hc hy q hq
/-- the rows of the form are among the law's own -/
theorem line_law {h : House} (o : Fine h) {l : Line} (hl : l ∈ h.lines) {r : Row} (hr : r ∈ lineForm h l) : ∃ r' ∈ lineRows h l, ∀ p, p ∈ r ↔ p ∈ r' := by
  have v := o.lines l hl
  have up : ∀ {f f' : List Row}, (∀ r ∈ f, ∃ r' ∈ f', ∀ p, p ∈ r ↔ p ∈ r') → ∀ r ∈ afterF f l.wait, ∃ r' ∈ afterF f' l.wait, ∀ p, p ∈ r ↔ p ∈ r' := fun {f f'} k r hr => by
    obtain ⟨q, hq, rfl⟩ := List.mem_map.mp hr
    obtain ⟨q', hq', s⟩ := k q hq
    refine ⟨_, List.mem_map.mpr ⟨q', hq', rfl⟩, fun p => ?_⟩
    rw [List.mem_map, List.mem_map]
    exact ⟨fun ⟨x, hx, e⟩ => ⟨x, (s x).mp hx, e⟩, fun ⟨x, hx, e⟩ => ⟨x, (s x).mpr hx, e⟩⟩
  rcases zs_cases v with ⟨a, e, ha⟩ | ⟨a, c, e, ha, hc⟩
  · rw [lineForm1 e] at hr
    rw [lineRows1 e]
    exact up (fun r hr => ⟨r, (zoneRowsAt_mem o ha r).mpr hr, fun p => Iff.rfl⟩) r hr
  · rw [lineForm2 e] at hr
    rw [lineRows2 e]
    refine up (fun r hr => ?_) r hr
    cases hany : l.any with
    | true =>
      rw [hany, if_pos rfl] at hr
      rw [if_pos rfl]
      refine ⟨r, ?_, fun p => Iff.rfl⟩
      rcases List.mem_append.mp (mem_least.mp hr).1 with hr | hr
      · exact List.mem_append_left _ ((zoneRowsAt_mem o ha r).mpr hr)
      · exact List.mem_append_right _ ((zoneRowsAt_mem o hc r).mpr hr)
    | false =>
      rw [hany, if_neg Bool.false_ne_true] at hr
      rw [if_neg Bool.false_ne_true]
      obtain ⟨x, hx, y, hy, rfl⟩ := both_mem.mp (mem_least.mp hr).1
      exact ⟨_, mem_meets.mpr ⟨x, (zoneRowsAt_mem o ha x).mpr hx, y, (zoneRowsAt_mem o hc y).mpr hy, rfl⟩, fun p => (joined_mem x y p).trans (meet_mem x y p).symm⟩
/-- the law's rows are few -/
theorem line_few {h : House} (o : Fine h) (s : Size h) {l : Line} (hl : l ∈ h.lines) : ∃ m : List Row, m.length ≤ 9 ∧ ∀ r ∈ lineRows h l, r ∈ m := by
  have v := o.lines l hl
  have up : ∀ {f m : List Row}, (∀ r ∈ f, r ∈ m) → ∀ r ∈ afterF f l.wait, r ∈ afterF m l.wait := fun {f m} k r hr => by
    obtain ⟨q, hq, rfl⟩ := List.mem_map.mp hr
    exact List.mem_map.mpr ⟨q, k q hq, rfl⟩
  have al : ∀ (m : List Row) (w : Int), (afterF m w).length = m.length := fun m w => by unfold afterF; rw [List.length_map]
  rcases zs_cases v with ⟨a, e, ha⟩ | ⟨a, c, e, ha, hc⟩
  · rw [lineRows1 e]
    refine ⟨afterF (zoneAt h a) l.wait, ?_, up fun r hr => (zoneRowsAt_mem o ha r).mp hr⟩
    have := (zone_fit s a).1
    rw [al]; omega
  · rw [lineRows2 e]
    have fa := (zone_fit s a).1
    have fc := (zone_fit s c).1
    cases hany : l.any with
    | true =>
      rw [if_pos rfl]
      refine ⟨afterF (zoneAt h a ++ zoneAt h c) l.wait, ?_, up fun r hr => ?_⟩
      · rw [al, List.length_append]; omega
      · rcases List.mem_append.mp hr with hr | hr
        · exact List.mem_append_left _ ((zoneRowsAt_mem o ha r).mp hr)
        · exact List.mem_append_right _ ((zoneRowsAt_mem o hc r).mp hr)
    | false =>
      rw [if_neg Bool.false_ne_true]
      refine ⟨afterF (meetRows (zoneAt h a) (zoneAt h c)) l.wait, ?_, up fun r hr => ?_⟩
      · rw [al]
        unfold meetRows
        rw [flat_len]
        exact Nat.le_trans (Nat.mul_le_mul fa fc) (Nat.le_refl 9)
      · obtain ⟨x, hx, y, hy, rfl⟩ := mem_meets.mp hr
        exact mem_meets.mpr ⟨x, (zoneRowsAt_mem o ha x).mp hx, y, (zoneRowsAt_mem o hc y).mp hy, rfl⟩
end Sk
set_option maxHeartbeats 4000000
/-! Mt4: outs; hangs_on is the law's word; what the words say of all begins. -/
namespace Sk
open PySem PySem.Spec PyProof.Rows L2 PySem.W
/-- no row over another -/
def Anti (f : List Row) : Prop := ∀ r ∈ f, ∀ o ∈ f, r ≠ o → isOver r o = false
theorem least_anti (f : List Row) : Anti (leastOf f) := fun r hr o ho ne => (mem_least.mp hr).2 o (mem_least.mp ho).1 ne
structure FormOk (h : House) (k : Int) (ls : List Line) (acc f : List Row) : Prop where
  goods : Goods f
  anti : Anti f
  due : ∀ g T, SomeDue g T f ↔ SomeDue g T acc ∨ ∃ l ∈ ls, l.out = k ∧ SomeDue g T (lineForm h l)
  from_ : ∀ r ∈ f, r ∈ acc ∨ ∃ l ∈ ls, l.out = k ∧ r ∈ lineForm h l
theorem form_ok {h : House} (o : Fine h) (k : Int) : ∀ (ls : List Line), (∀ l ∈ ls, l ∈ h.lines) → ∀ acc, Goods acc → Anti acc → FormOk h k ls acc (ls.foldl (fun acc l => if l.out = k then eitherF acc (lineForm h l) else acc) acc)
  | [], _, acc, ga, aa => ⟨ga, aa, fun g T => by simp, fun r hr => .inl hr⟩
  | l :: ls, sub, acc, ga, aa => by
    have gl := line_goods o (sub l List.mem_cons_self)
    rw [List.foldl_cons]
    by_cases e : l.out = k
    · rw [if_pos e]
      have r := form_ok o k ls (fun x hx => sub x (List.mem_cons_of_mem _ hx)) (eitherF acc (lineForm h l)) (either_goods ga gl) (least_anti _)
      refine ⟨r.goods, r.anti, fun g T => ?_, fun q hq => ?_⟩
      · rw [r.due, either_due ga gl, or_assoc]
        refine or_congr_right ?_
        constructor
        · intro z
          rcases z with z | ⟨x, hx, z⟩
          · exact ⟨l, List.mem_cons_self, e, z⟩
          · exact ⟨x, List.mem_cons_of_mem _ hx, z⟩
        · intro ⟨x, hx, z⟩
          rcases List.mem_cons.mp hx with rfl | hx
          · exact .inl z.2
          · exact .inr ⟨x, hx, z⟩
      · rcases r.from_ q hq with z | ⟨x, hx, z⟩
        · rcases List.mem_append.mp (mem_least.mp z).1 with z | z
          · exact .inl z
          · exact .inr ⟨l, List.mem_cons_self, e, z⟩
        · exact .inr ⟨x, List.mem_cons_of_mem _ hx, z⟩
    · rw [if_neg e]
      have r := form_ok o k ls (fun x hx => sub x (List.mem_cons_of_mem _ hx)) acc ga aa
      refine ⟨r.goods, r.anti, fun g T => ?_, fun q hq => ?_⟩
      · rw [r.due]
        refine or_congr_right ?_
        constructor
        · intro ⟨x, hx, z⟩; exact ⟨x, List.mem_cons_of_mem _ hx, z⟩
        · intro ⟨x, hx, z⟩
          rcases List.mem_cons.mp hx with rfl | hx
          · exact absurd z.1 e
          · exact ⟨x, hx, z⟩
      · rcases r.from_ q hq with z | ⟨x, hx, z⟩
        · exact .inl z
        · exact .inr ⟨x, List.mem_cons_of_mem _ hx, z⟩
theorem out_form {h : House} (o : Fine h) (k : Int) : FormOk h k h.lines [] (outForm h k) :=
  form_ok o k h.lines (fun l hl => hl) [] (fun r hr => by cases hr) (fun r hr => by cases hr)
/-- the out is on by T: some row of its form is due by T -/
theorem out_due {h : House} (o : Fine h) (b : Row) (k T : Int) : LeO (outNow h b k) T ↔ SomeDue (gOf b) T (outForm h k) := by
  rw [(out_form o k).due]
  unfold outNow outAt
  rw [kth1_le]
  constructor
  · intro ⟨x, hx, l⟩
    obtain ⟨n, hn, rfl⟩ := List.mem_map.mp hx
    obtain ⟨h1, h2⟩ := List.mem_filter.mp hn
    exact .inr ⟨n, h1, of_decide_eq_true h2, (line_due o h1 b T).mp l⟩
  · intro z
    rcases z with ⟨r, hr, _⟩ | ⟨n, h1, h2, d⟩
    · cases hr
    · exact ⟨_, List.mem_map.mpr ⟨n, List.mem_filter.mpr ⟨h1, decide_eq_true h2⟩, rfl⟩, (line_due o h1 b T).mpr d⟩
theorem out_none {h : House} (o : Fine h) (b : Row) (k : Int) : outNow h b k = none ↔ ∀ T, ¬ SomeDue (gOf b) T (outForm h k) := by
  constructor
  · intro e T z
    have := (out_due o b k T).mpr z
    rw [e] at this
    exact leO_none this
  · intro z
    cases e : outNow h b k with
    | none => rfl
    | some t => exact absurd ((out_due o b k t).mp (by rw [e, leO_some]; exact Int.le_refl t)) (z t)
theorem form_sub {h : House} (o : Fine h) {k : Int} {r : Row} (hr : r ∈ outForm h k) : ∀ p ∈ r, p.1 ∈ feelersOf h := by
  rcases (out_form o k).from_ r hr with z | ⟨l, hl, _, z⟩
  · cases z
  · exact line_sub o hl r z
theorem form_law {h : House} (o : Fine h) {k : Int} {r : Row} (hr : r ∈ outForm h k) : ∃ l ∈ h.lines, l.out = k ∧ ∃ r' ∈ lineRows h l, ∀ p, p ∈ r ↔ p ∈ r' := by
  rcases (out_form o k).from_ r hr with z | ⟨l, hl, e, z⟩
  · cases z
  · exact ⟨l, hl, e, line_law o hl z⟩
/-! ### rows that hold a spot -/
def holds (s : Spot) (r : Row) : Bool := r.any fun p => [s].contains p.1
theorem holds_iff {s : Spot} {r : Row} : holds s r = true ↔ ∃ p ∈ r, p.1 = s := by
  unfold holds
  rw [List.any_eq_true]
  exact ⟨fun ⟨p, hp, e⟩ => ⟨p, hp, by simpa using e⟩, fun ⟨p, hp, e⟩ => ⟨p, hp, by simpa using e⟩⟩
theorem without_one (f : List Row) (s : Spot) : withoutF f [s] = f.filter fun r => !holds s r := rfl
theorem without_all {f : List Row} {s : Spot} : withoutF f [s] = f ↔ ∀ r ∈ f, holds s r = false := by
  rw [without_one, List.filter_eq_self]
  exact ⟨fun h r hr => by simpa using h r hr, fun h r hr => by simpa using h r hr⟩
theorem without_no {f : List Row} {s : Spot} : withoutF f [s] = [] ↔ ∀ r ∈ f, holds s r = true := by
  rw [without_one, List.filter_eq_nil_iff]
  exact ⟨fun h r hr => by simpa using h r hr, fun h r hr => by simpa using h r hr⟩
theorem g_but (b : Row) (s k : Spot) : gOf (butR b s) k = if k = s then none else gOf b k := but_get b s k
theorem but_due {b : Row} {s : Spot} {T : Int} {r : Row} : Due (gOf (butR b s)) T r ↔ holds s r = false ∧ Due (gOf b) T r := by
  constructor
  · intro h
    have n : holds s r = false := by
      cases e : holds s r with
      | false => rfl
      | true =>
        obtain ⟨p, hp, e⟩ := holds_iff.mp e
        obtain ⟨t, ht, _⟩ := h p hp
        rw [g_but, if_pos e] at ht
        cases ht
    refine ⟨n, fun p hp => ?_⟩
    obtain ⟨t, ht, l⟩ := h p hp
    rw [g_but] at ht
    split at ht
    · cases ht
    · exact ⟨t, ht, l⟩
  · intro ⟨n, h⟩ p hp
    obtain ⟨t, ht, l⟩ := h p hp
    refine ⟨t, ?_, l⟩
    rw [g_but, if_neg (fun e => by rw [holds_iff.mpr ⟨p, hp, e⟩] at n; cases n)]
    exact ht
/-- no row holds s: s moves nothing -/
theorem still {h : House} (o : Fine h) {k : Int} {s : Spot} (n : ∀ r ∈ outForm h k, holds s r = false) (b : Row) : outNow h b k = outNow h (butR b s) k := by
  refine leO_ext fun T => ?_
  rw [out_due o, out_due o]
  exact ⟨fun ⟨r, hr, d⟩ => ⟨r, hr, but_due.mpr ⟨n r hr, d⟩⟩, fun ⟨r, hr, d⟩ => ⟨r, hr, (but_due.mp d).2⟩⟩
/-- each row holds s: nothing without it -/
theorem dead {h : House} (o : Fine h) {k : Int} {s : Spot} (n : ∀ r ∈ outForm h k, holds s r = true) (b : Row) : outNow h (butR b s) k = none := by
  rw [out_none o]
  intro T ⟨r, hr, d⟩
  have := (but_due.mp d).1
  rw [n r hr] at this
  cases this
/-! ### all speaking at once -/
theorem zeros_get (ss : List Spot) (k : Spot) (hk : k ∈ ss) : getS (ss.map fun s => (s, (0 : Int))) k = some 0 := by
  induction ss with
  | nil => cases hk
  | cons a ss ih =>
    rw [List.map_cons, getS_cons]
    by_cases e : a = k
    · rw [if_pos e]
    · rw [if_neg e]
      exact ih ((List.mem_cons.mp hk).resolve_left fun z => e z.symm)
theorem fold_has : ∀ (b acc : Row) (k : Spot), (∀ p ∈ b, p.2 = 0) → (k ∈ b.map (·.1) ∨ getS acc k = some 0) → (∀ v, getS acc k = some v → v = 0) → getS (b.foldl (fun acc p => putS acc p.1 p.2) acc) k = some 0
  | [], acc, k, _, h, _ => h.resolve_left (fun z => by cases z)
  | p :: b, acc, k, z, h, u => by
    rw [List.foldl_cons]
    have z0 := z p List.mem_cons_self
    refine fold_has b _ k (fun q hq => z q (List.mem_cons_of_mem _ hq)) ?_ ?_
    · rw [getS_putS]
      by_cases e : p.1 = k
      · rw [if_pos e, z0]; exact .inr rfl
      · rw [if_neg e]
        rcases h with h | h
        · rw [List.map_cons] at h
          exact .inl ((List.mem_cons.mp h).resolve_left fun x => e x.symm)
        · exact .inr h
    · intro v hv
      rw [getS_putS] at hv
      by_cases e : p.1 = k
      · rw [if_pos e] at hv
        rw [← Option.some.inj hv, z0]
      · rw [if_neg e] at hv
        exact u v hv
theorem all_get {h : House} {s : Spot} (hs : s ∈ feelersOf h) : gOf (allOf h) s = some 0 := by
  unfold gOf dictS
  refine fold_has (allOf h) [] s (fun p hp => ?_) (.inl ?_) (fun v hv => by cases hv)
  · obtain ⟨q, _, rfl⟩ := List.mem_map.mp hp
    rfl
  · unfold allOf
    rw [List.map_map]
    exact List.mem_map.mpr ⟨s, hs, rfl⟩
theorem all_due {h : House} (o : Fine h) {k : Int} {r : Row} (hr : r ∈ outForm h k) : Due (gOf (allOf h)) (rowMax r) r := fun p hp =>
  ⟨0, all_get (form_sub o hr p hp), by have := rowMax_le hp; omega⟩
theorem all_none {h : House} (o : Fine h) {k : Int} : outNow h (allOf h) k = none ↔ outForm h k = [] := by
  rw [out_none o]
  constructor
  · intro z
    cases e : outForm h k with
    | nil => rfl
    | cons r f =>
      have hr : r ∈ outForm h k := by rw [e]; exact List.mem_cons_self
      exact absurd ⟨r, hr, all_due o hr⟩ (z (rowMax r))
  · intro e T ⟨r, hr, _⟩
    rw [e] at hr
    cases hr
theorem but_none {h : House} (o : Fine h) {k : Int} {s : Spot} : outNow h (butR (allOf h) s) k = none ↔ ∀ r ∈ outForm h k, holds s r = true := by
  constructor
  · intro z r hr
    cases e : holds s r with
    | true => rfl
    | false => exact absurd ⟨r, hr, but_due.mpr ⟨e, all_due o hr⟩⟩ ((out_none o _ k).mp z (rowMax r))
  · intro n
    exact dead o n _
/-! ### a row that holds s shows by its fire -/
theorem fire_fold : ∀ (r acc : Row) (M : Int) (k : Spot) (v : Int), ((r.map (·.1)).Nodup) → (k, v) ∈ r → getS ((r.map fun p => (p.1, M - p.2)).foldl (fun acc p => putS acc p.1 p.2) acc) k = some (M - v) := by
  intro r acc M k v nd h
  have e : (r.map fun p => (p.1, M - p.2)).map (·.1) = r.map (·.1) := by rw [List.map_map]; rfl
  rw [foldPut_get _ acc (by rw [e]; exact nd), (getS_iff (by rw [e]; exact nd)).mpr (List.mem_map.mpr ⟨(k, v), h, rfl⟩)]
  rfl
theorem fire_none {r : Row} {k : Spot} (nd : (r.map (·.1)).Nodup) {t : Int} (h : gOf (fireOf r) k = some t) : ∃ v, (k, v) ∈ r ∧ t = rowMax r - v := by
  unfold gOf fireOf at h
  have e : (r.map fun p => (p.1, rowMax r - p.2)).map (·.1) = r.map (·.1) := by rw [List.map_map]; rfl
  rw [dict_get (by rw [e]; exact nd)] at h
  obtain ⟨p, hp, z⟩ := List.mem_map.mp (getS_mem h)
  have z1 := (Prod.ext_iff.mp z).1
  have z2 := (Prod.ext_iff.mp z).2
  simp only at z1 z2
  exact ⟨p.2, by rw [← z1]; exact hp, z2.symm⟩
theorem fire_get {r : Row} (nd : (r.map (·.1)).Nodup) {k : Spot} {v : Int} (h : (k, v) ∈ r) : gOf (fireOf r) k = some (rowMax r - v) := fire_fold r [] _ k v nd h
theorem nodup_keys {r o : Row} (nd : (r.map (·.1)).Nodup) (pm : r.Perm o) : (o.map (·.1)).Nodup := (pm.map (·.1)).nodup_iff.mp nd
theorem max_same {r o : Row} (h : ∀ p, p ∈ r ↔ p ∈ o) (ne : r ≠ []) : rowMax r = rowMax o := by
  have ne2 : o ≠ [] := fun e => by
    subst e
    obtain ⟨p, l, rfl⟩ := List.exists_cons_of_ne_nil ne
    exact absurd ((h p).mp List.mem_cons_self) (by simp)
  obtain ⟨p, hp, e⟩ := rowMax_mem ne
  obtain ⟨q, hq, e2⟩ := rowMax_mem ne2
  have h1 := rowMax_le ((h p).mp hp)
  have h2 := rowMax_le ((h q).mpr hq)
  omega
theorem fire_moves {h : House} (o : Fine h) {k : Int} {s : Spot} {r r' : Row} (hr : r ∈ outForm h k) (hs : holds s r = true) (same : ∀ p, p ∈ r ↔ p ∈ r') (nd : (r'.map (·.1)).Nodup) : moved h k s (fireOf r') = true := by
  have gr := (out_form o k).goods r hr
  refine decide_eq_true fun e => ?_
  have due : Due (gOf (fireOf r')) (rowMax r') r := fun p hp => ⟨_, fire_get nd ((same p).mp hp), by omega⟩
  have l := (out_due o (fireOf r') k (rowMax r')).mpr ⟨r, hr, due⟩
  rw [e, out_due o] at l
  obtain ⟨q, hq, d⟩ := l
  obtain ⟨nq, dq⟩ := but_due.mp d
  have ne : r ≠ q := fun z => by rw [z, nq] at hs; cases hs
  have ov : isOver r q = true := (isOver_iff gr.canon.nd).mpr fun p hp => by
    obtain ⟨t, ht, l⟩ := dq p hp
    obtain ⟨v, hv, rfl⟩ := fire_none nd ht
    exact ⟨v, (same _).mpr hv, by omega⟩
  rw [(out_form o k).anti r hr q hq ne] at ov
  cases ov
/-! ### the law's rows have each spot once -/
theorem meet_nd (r o : Row) : ((meetRow r o).map (·.1)).Nodup := by
  unfold meetRow
  rw [List.map_map]
  have e : ((fun x : Pr => x.1) ∘ fun s => (s, (getS (o.foldl mixS (dictS r)) s).getD 0)) = id := rfl
  rw [e, List.map_id]
  exact (dsort_perm eSpot _).nodup_iff.mpr (dict_nd o)
theorem lineRows_nd {h : House} (o : Fine h) {l : Line} (hl : l ∈ h.lines) : ∀ r ∈ lineRows h l, (r.map (·.1)).Nodup := by
  have v := o.lines l hl
  have up : ∀ {f : List Row}, (∀ r ∈ f, (r.map (·.1)).Nodup) → ∀ r ∈ afterF f l.wait, (r.map (·.1)).Nodup := fun {f} k r hr => by
    obtain ⟨q, hq, rfl⟩ := List.mem_map.mp hr
    have e : (q.map fun p => (p.1, p.2 + l.wait)).map (·.1) = q.map (·.1) := by rw [List.map_map]; rfl
    rw [e]
    exact k q hq
  rcases zs_cases v with ⟨a, e, ha⟩ | ⟨a, c, e, ha, hc⟩
  · rw [lineRows1 e]
    exact up fun r hr => (zoneAt_goods o ha r ((zoneRowsAt_mem o ha r).mp hr)).canon.nd
  · rw [lineRows2 e]
    refine up fun r hr => ?_
    split at hr
    · rcases List.mem_append.mp hr with hr | hr
      · exact (zoneAt_goods o ha r ((zoneRowsAt_mem o ha r).mp hr)).canon.nd
      · exact (zoneAt_goods o hc r ((zoneRowsAt_mem o hc r).mp hr)).canon.nd
    · obtain ⟨x, hx, y, hy, rfl⟩ := mem_meets.mp hr
      exact meet_nd x y
/-! ### the words -/
theorem never_some : ("never" : Str) ≠ "some" := by decide +kernel
theorem never_always : ("never" : Str) ≠ "always" := by decide +kernel
theorem always_some : ("always" : Str) ≠ "some" := by decide +kernel
theorem some_moved {h : House} (o : Fine h) {k : Int} {s : Spot} {r : Row} (hr : r ∈ outForm h k) (hs : holds s r = true) : (firesOf h k).any (moved h k s) = true := by
  obtain ⟨l, hl, e, r', hr', same⟩ := form_law o hr
  refine List.any_eq_true.mpr ⟨fireOf r', ?_, fire_moves o hr hs same (lineRows_nd o hl r' hr')⟩
  unfold firesOf
  refine (dsort_perm eRow _).mem_iff.mpr (mem_dd.mpr (List.mem_flatMap.mpr ⟨l, hl, ?_⟩))
  rw [if_pos e]
  exact List.mem_map.mpr ⟨r', hr', rfl⟩
theorem M2 {h : House} (o : Fine h) (k : Int) (s : Spot) : hangsOn h k s = lawWord h k s := by
  unfold hangsOn lawWord
  by_cases e0 : outForm h k = []
  · rw [if_pos ((all_none o).mpr e0), if_pos (by rw [e0]; rfl)]
  · rw [if_neg (c := outNow h (allOf h) k = none) (fun z => e0 ((all_none o).mp z))]
    obtain ⟨r0, hr0⟩ := List.exists_mem_of_ne_nil _ e0
    by_cases e1 : ∀ r ∈ outForm h k, holds s r = true
    · rw [if_pos (c := outNow h (butR (allOf h) s) k = none) ((but_none o).mpr e1), if_neg (fun z => by
        have := without_all.mp z r0 hr0
        rw [e1 r0 hr0] at this
        cases this), if_pos (without_no.mpr e1)]
    · rw [if_neg (c := outNow h (butR (allOf h) s) k = none) (fun z => e1 ((but_none o).mp z))]
      by_cases e2 : ∀ r ∈ outForm h k, holds s r = false
      · rw [if_pos (without_all.mpr e2), if_neg]
        intro z
        obtain ⟨b, _, hb⟩ := List.any_eq_true.mp z
        exact of_decide_eq_true hb (still o e2 b)
      · rw [if_neg (fun z => e2 (without_all.mp z)), if_neg (fun z => e1 (without_no.mp z))]
        have : ∃ r ∈ outForm h k, holds s r = true := by
          refine Classical.byContradiction fun z => e2 fun r hr => ?_
          cases e : holds s r with
          | false => rfl
          | true => exact absurd ⟨r, hr, e⟩ z
        obtain ⟨r, hr, hs⟩ := this
        rw [if_pos (some_moved o hr hs)]
theorem M3 {h : House} (o : Fine h) {k : Int} {s : Spot} (e : lawWord h k s = "never") (b : Row) : outNow h b k = outNow h (butR b s) k := by
  rw [← M2 o k s] at e
  unfold hangsOn at e
  refine still o (without_all.mp ?_) b
  by_cases z : withoutF (outForm h k) [s] = outForm h k
  · exact z
  · rw [if_neg z] at e
    split at e
    · exact absurd e.symm never_always
    · exact absurd e.symm never_some
theorem M4 {h : House} (o : Fine h) {k : Int} {s : Spot} (e : lawWord h k s = "always") (b : Row) : outNow h (butR b s) k = none := by
  rw [← M2 o k s] at e
  unfold hangsOn at e
  refine dead o (without_no.mp ?_) b
  by_cases z : withoutF (outForm h k) [s] = outForm h k
  · rw [if_pos z] at e
    exact absurd e never_always
  · rw [if_neg z] at e
    by_cases y : withoutF (outForm h k) [s] = []
    · exact y
    · rw [if_neg y] at e
      exact absurd e.symm always_some
theorem word_three (h : House) (k : Int) (s : Spot) : lawWord h k s = "never" ∨ lawWord h k s = "always" ∨ lawWord h k s = "some" := by
  unfold lawWord
  split
  · exact .inl rfl
  · split
    · exact .inr (.inl rfl)
    · split
      · exact .inr (.inr rfl)
      · exact .inl rfl
/-! ### the fires are few -/
theorem fires_few {h : House} (o : Fine h) (s : Size h) (k : Int) : ∀ (ls : List Line), (∀ l ∈ ls, l ∈ h.lines) → ∃ m : List Row, m.length ≤ 9 * ls.length ∧ ∀ r ∈ (ls.flatMap fun l => if l.out = k then (lineRows h l).map fireOf else []), r ∈ m
  | [], _ => ⟨[], Nat.le_refl _, fun r hr => by cases hr⟩
  | l :: ls, sub => by
    obtain ⟨m, h1, h2⟩ := fires_few o s k ls fun x hx => sub x (List.mem_cons_of_mem _ hx)
    obtain ⟨n, h3, h4⟩ := line_few o s (sub l List.mem_cons_self)
    refine ⟨n.map fireOf ++ m, ?_, fun r hr => ?_⟩
    · rw [List.length_append, List.length_map, List.length_cons]; omega
    · rw [List.flatMap_cons] at hr
      rcases List.mem_append.mp hr with hr | hr
      · split at hr
        · obtain ⟨q, hq, rfl⟩ := List.mem_map.mp hr
          exact List.mem_append_left _ (List.mem_map.mpr ⟨q, h4 q hq, rfl⟩)
        · cases hr
      · exact List.mem_append_right _ (h2 r hr)
theorem M1 {h : House} (o : Fine h) (s : Size h) (ll : h.lines.length ≤ 3) (k : Int) : (dd (firesL h k)).length < 64 := by
  obtain ⟨m, h1, h2⟩ := fires_few o s k h.lines fun l hl => hl
  have := (dd_nodup (firesL h k)).length_le_of_subset (l₂ := m) fun r hr => h2 r (mem_dd.mp hr)
  omega
end Sk
set_option maxHeartbeats 4000000
/-! Mt5: the inn. -/
namespace Sk
open PySem PySem.Spec PyProof.Rows L2 PySem.W
def hallR : Ring := (0, [(sFeel, [0]), (sCut, []), (sFeel, [1]), (sFeel, [2]), ("bell", [0]), (sCut, []), (sFeel, [0])])
def innZ1 : Zone := ([(0, 0), (0, 2)], 1)
def oneZ : Zone := ([(0, 0)], 1)
def innZ2 : Zone := ([(0, 2), (0, 3), (0, 6)], 2)
def innL1 : Line := ⟨0, true, [0], 3, 0, 4, 0⟩
def innL2 : Line := ⟨0, false, [0, 1], 2, 1, 0, 0⟩
def innH : House := ⟨[hallR], [innZ1, innZ2], [innL1, innL2], 1⟩
def oneH : House := ⟨[hallR], [oneZ, innZ2], [innL1, innL2], 1⟩
def noneH : House := ⟨[hallR], [innZ1, innZ2], [innL1], 1⟩
theorem feel_hall : spotsOf [hallR] "feel" = [(0, 0), (0, 2), (0, 3), (0, 6)] := by decide +kernel
theorem pw_spots {l : List Spot} (h : (l.Pairwise fun a b => a.1 = b.1 ∧ a.2 ≤ b.2)) : l.Pairwise fun a b => dle eSpot a b = true :=
  h.imp fun k => dle_spot.mpr (.inr k)
theorem hallZ {h : House} (e : h.rings = [hallR]) {z : Zone} (hz : z = innZ1 ∨ z = innZ2 ∨ z = oneZ) : ZoneOk (feelersOf h) z := by
  have f : feelersOf h = [(0, 0), (0, 2), (0, 3), (0, 6)] := by
    unfold feelersOf
    rw [e]
    exact feel_hall
  rw [f]
  rcases hz with rfl | rfl | rfl
  · exact ⟨by decide, pw_spots (by decide), by decide, by decide, by decide, .inl rfl⟩
  · exact ⟨by decide, pw_spots (by decide), by decide, by decide, by decide, .inr ⟨rfl, by decide⟩⟩
  · exact ⟨by decide, pw_spots (by decide), by decide, by decide, by decide, .inl rfl⟩
theorem innL1_v : LineV 2 innL1 := ⟨by decide, by decide, by decide, by decide, by decide, by decide⟩
theorem innL2_v : LineV 2 innL2 := ⟨by decide, by decide, by decide, by decide, by decide, by decide⟩
theorem inn_fine : Fine innH := ⟨fun z hz => by
  have : z = innZ1 ∨ z = innZ2 := by simpa [innH] using hz
  exact hallZ rfl (this.imp id .inl), fun l hl => by
  have : l = innL1 ∨ l = innL2 := by simpa [innH] using hl
  rcases this with rfl | rfl
  · exact innL1_v
  · exact innL2_v⟩
theorem one_fine : Fine oneH := ⟨fun z hz => by
  have : z = oneZ ∨ z = innZ2 := by simpa [oneH] using hz
  rcases this with rfl | rfl
  · exact hallZ rfl (.inr (.inr rfl))
  · exact hallZ rfl (.inr (.inl rfl)), fun l hl => by
  have : l = innL1 ∨ l = innL2 := by simpa [oneH] using hl
  rcases this with rfl | rfl
  · exact innL1_v
  · exact innL2_v⟩
theorem kn1 {ss : List Spot} {g : Spot → Option Int} {T : Int} : LeO (kthI (ss.map g) 1) T ↔ (ss.any fun s => leB T (g s)) = true := by
  unfold kthI
  rw [show (1 : Int).toNat = 1 from rfl, kth1_le, List.any_eq_true]
  constructor
  · intro ⟨o, ho, l⟩
    obtain ⟨a, ha, rfl⟩ := List.mem_map.mp ho
    exact ⟨a, ha, leB_iff.mpr l⟩
  · intro ⟨a, ha, l⟩
    exact ⟨_, List.mem_map.mpr ⟨a, ha, rfl⟩, leB_iff.mp l⟩
theorem kn2 {ss : List Spot} {g : Spot → Option Int} {T : Int} : LeO (kthI (ss.map g) 2) T ↔ 2 ≤ (ss.filter fun s => leB T (g s)).length := by
  unfold kthI
  rw [show (2 : Int).toNat = 1 + 1 from rfl, kth_le, List.filter_map, List.length_map]
  rfl
theorem both_line {h : House} (o : Fine h) {z1 z2 : Zone} (hz : h.zones = [z1, z2]) (hl : h.lines = [innL1, innL2]) (g : Spot → Option Int) (T : Int) :
    SomeDue g T (outForm h 1) ↔ LeO (kthI (z1.1.map g) z1.2) (T - 2) ∧ LeO (kthI (z2.1.map g) z2.2) (T - 2) := by
  have m1 : z1 ∈ h.zones := by rw [hz]; simp
  have m2 : z2 ∈ h.zones := by rw [hz]; simp
  have e1 : zoneAt h 0 = knockForm z1.1 z1.2 := zoneAt_some (by rw [hz]; rfl)
  have e2 : zoneAt h 1 = knockForm z2.1 z2.2 := zoneAt_some (by rw [hz]; rfl)
  have n0 : 0 < h.zones.length := by rw [hz]; simp
  have n1 : 1 < h.zones.length := by rw [hz]; simp
  have lf : SomeDue g T (lineForm h innL2) ↔ LeO (kthI (z1.1.map g) z1.2) (T - 2) ∧ LeO (kthI (z2.1.map g) z2.2) (T - 2) := by
    rw [lineForm2 (a := 0) (b := 1) rfl, afterF_due]
    show SomeDue g (T - 2) (bothF _ _) ↔ _
    rw [both_due (zoneAt_goods o n0) (zoneAt_goods o n1), e1, e2, knock_due (o.zones z1 m1).kn, knock_due (o.zones z2 m2).kn]
  rw [(out_form o 1).due, hl, ← lf]
  constructor
  · intro z
    rcases z with ⟨r, hr, _⟩ | ⟨l, hl, e, d⟩
    · cases hr
    · simp only [List.mem_cons, List.not_mem_nil, or_false] at hl
      rcases hl with rfl | rfl
      · exact absurd e (by decide)
      · exact d
  · intro d
    exact .inr ⟨innL2, by simp, rfl, d⟩
def gBut (s : Spot) : Spot → Option Int := fun k => if k = s then none else some 0
theorem but_all {s : Spot} {r : Row} (h : holds s r = false) : Due (gBut s) (rowMax r) r := fun p hp => by
  refine ⟨0, ?_, by have := rowMax_le hp; omega⟩
  unfold gBut
  rw [if_neg (fun e => by rw [holds_iff.mpr ⟨p, hp, e⟩] at h; cases h)]
theorem but_holds {s : Spot} {T : Int} {r : Row} (d : Due (gBut s) T r) : holds s r = false := by
  cases e : holds s r with
  | false => rfl
  | true =>
    obtain ⟨p, hp, e⟩ := holds_iff.mp e
    obtain ⟨t, ht, _⟩ := d p hp
    unfold gBut at ht
    rw [if_pos e] at ht
    cases ht
theorem hang1 : hangsOn innH 0 (0, 3) = "never" := by
  unfold hangsOn
  rw [if_pos (without_all.mpr fun r hr => ?_)]
  cases e : holds (0, 3) r with
  | false => rfl
  | true =>
    obtain ⟨p, hp, e⟩ := holds_iff.mp e
    rcases (out_form inn_fine 0).from_ r hr with z | ⟨l, hl, e2, z⟩
    · cases z
    · have : l = innL1 ∨ l = innL2 := by simpa [innH] using hl
      rcases this with rfl | rfl
      · rw [lineForm1 (a := 0) rfl] at z
        have := after_sub (f := zoneAt innH 0) (w := innL1.wait) (fs := innZ1.1) (fun r hr => knock_sub (ss := innZ1.1) (n := 1) (.inl rfl) (by rw [zoneAt_some (z := innZ1) rfl] at hr; exact hr)) r z p hp
        rw [e] at this
        exact absurd this (by decide)
      · exact absurd e2 (by decide)
theorem hang3 : hangsOn oneH 1 (0, 0) = "always" := by
  have al : ∀ r ∈ outForm oneH 1, holds (0, 0) r = true := fun r hr => by
    cases e : holds (0, 0) r with
    | true => rfl
    | false =>
      have := ((both_line one_fine (z1 := oneZ) (z2 := innZ2) rfl rfl (gBut (0, 0)) (rowMax r)).mp ⟨r, hr, but_all e⟩).1
      have := kn1.mp this
      exact absurd this (by simp [oneZ, gBut, leB])
  obtain ⟨r, hr, _⟩ := (both_line one_fine (z1 := oneZ) (z2 := innZ2) rfl rfl (fun _ => some 0) 10).mpr ⟨kn1.mpr (by decide), kn2.mpr (by decide)⟩
  unfold hangsOn
  rw [if_neg (fun z => by have := without_all.mp z r hr; rw [al r hr] at this; cases this), if_pos (without_no.mpr al)]
theorem hang2 : hangsOn innH 1 (0, 2) = "some" := by
  have inn := both_line inn_fine (z1 := innZ1) (z2 := innZ2) rfl rfl
  obtain ⟨r, hr, d⟩ := (inn (gBut (0, 2)) 10).mpr ⟨kn1.mpr (by decide), kn2.mpr (by decide)⟩
  have n := but_holds d
  unfold hangsOn
  rw [if_neg (fun z => ?_), if_neg (fun z => by have := without_no.mp z r hr; rw [n] at this; cases this)]
  have al := without_all.mp z
  let g : Spot → Option Int := fun k => if k = (0, 2) then some 0 else if k = (0, 3) then some 0 else none
  let g' : Spot → Option Int := fun k => if k = (0, 3) then some 0 else none
  obtain ⟨q, hq, dq⟩ := (inn g 10).mpr ⟨kn1.mpr (by decide), kn2.mpr (by decide)⟩
  have : SomeDue g' 10 (outForm innH 1) := ⟨q, hq, fun p hp => by
    obtain ⟨t, ht, l⟩ := dq p hp
    refine ⟨t, ?_, l⟩
    have ne : p.1 ≠ (0, 2) := fun e => by
      have := al q hq
      rw [holds_iff.mpr ⟨p, hp, e⟩] at this
      cases this
    have e : g p.1 = g' p.1 := if_neg ne
    rw [← e]
    exact ht⟩
  have := kn1.mp ((inn g' 10).mp this).1
  exact absurd this (by decide)
theorem hang4 : hangsOn noneH 1 (0, 0) = "never" := by
  have e : outForm noneH 1 = [] := rfl
  unfold hangsOn
  rw [e]
  rfl
end Sk
set_option maxHeartbeats 400000
/-! Sk20: hall, inn. (Displays go one by one: a deep nest of ea_cons in one term takes Lean too long.) -/
namespace Sk
open PySem PySem.Spec PyProof.Rows L2 PySem.W
section
variable {P : Program} {w : World} {K : PySem.W.Frag} {mg : Str → Option Value} {base : Heap}
def R_hall (ds : List PyData) (d : PyData) : Prop := ds = [] ∧ d = eRing hallR
def R_inn (ds : List PyData) (d : PyData) : Prop := ds = [] ∧ d = eHouse innH
theorem ok_law_hall {f : Addr} {fd : FuncData} {x : Str} (F : Fun K x x s_law_hall f fd) : FnOk P w K mg base CX0 1 f fd [] (Pu R_hall) := by
  refine fn_pure F sc_law_hall (fun ds d ⟨e, _⟩ => by rw [e]; rfl) fun X T ds d C ⟨e, e2⟩ => ?_
  subst e e2
  refine b_ret ?_
  repeat' (first | exact ea_nil | exact e_int | exact e_str | refine ea_cons ?_ ?_ (hp := ?_) | refine e_tup ?_ (hl := ?_))
  all_goals first | rfl | exact Nat.le_of_ble_eq_true rfl
theorem ok_law_inn {f : Addr} {fd : FuncData} {x : Str} (F : Fun K x x s_law_inn f fd) (H : Has P w K mg base 1 "_law_hall" [] (Pu R_hall)) : FnOk P w K mg base CX0 2 f fd [] (Pu R_inn) := by
  refine fn_pure F sc_law_inn (fun ds d ⟨e, _⟩ => by rw [e]; rfl) fun X T ds d C ⟨e, e2⟩ => ?_
  subst e e2
  refine b_set C 0 (d := .tuple [eZone innZ1, eZone innZ2]) ?_ ?_
  · repeat' (first | exact ea_nil | exact e_int | exact e_str | exact e_none | refine ea_cons ?_ ?_ (hp := ?_) | refine e_tup ?_ (hl := ?_))
    all_goals first | rfl | exact Nat.le_of_ble_eq_true rfl
  · refine b_ret ?_
    refine e_tup (ds := [.tuple [eRing hallR], .tuple [eZone innZ1, eZone innZ2], .tuple [eLine innL1, eLine innL2], .tuple [.str "bell", .str "door"], .int 1]) ?_ (hl := ?_)
    · refine ea_cons ?_ ?_ (hp := ?_)
      · refine e_tup ?_ (hl := ?_)
        · refine ea_cons ?_ ea_nil (hp := ?_)
          · exact e_call0 C H (by omega) ⟨rfl, rfl⟩
          · rfl
        · exact Nat.le_of_ble_eq_true rfl
      · refine ea_cons ?_ ?_ (hp := ?_)
        · exact e_var C 0 rfl
        · repeat' (first | exact ea_nil | exact e_int | exact e_str | exact e_none | refine ea_cons ?_ ?_ (hp := ?_) | refine e_tup ?_ (hl := ?_))
          all_goals first | rfl | exact Nat.le_of_ble_eq_true rfl
        · rfl
      · rfl
    · exact Nat.le_of_ble_eq_true rfl
end
end Sk
set_option maxHeartbeats 1000000
/-! Sk21: hand_right. -/
namespace Sk
open PySem PySem.Spec PyProof.Rows L2 PySem.W
theorem hand_size {h : House} (hr : h.rings = [hallR]) (hz : ∀ z ∈ h.zones, z.1.length ≤ 3) (zl : h.zones.length ≤ 10) (ll : h.lines.length ≤ 4) (hl : ∀ l ∈ h.lines, l.zs.length ≤ 2) : Size h :=
  ⟨by rw [hr]; decide, by rw [hr]; decide +kernel, by rw [hr]; decide +kernel, zl, hz, ll, hl⟩
theorem inn_size : Size innH := hand_size rfl (by decide) (by decide) (by decide) (by decide)
theorem one_size : Size oneH := hand_size rfl (by decide) (by decide) (by decide) (by decide)
theorem none_size : Size noneH := hand_size rfl (by decide) (by decide) (by decide) (by decide)
theorem inn_lines : Lines innH := ⟨fun l hl => ⟨hl, (inn_fine.lines l hl).lt, fun e => by have := (inn_fine.lines l hl).ne; rw [e] at this; exact absurd this (by decide)⟩⟩
theorem one_lines : Lines oneH := ⟨fun l hl => ⟨hl, (one_fine.lines l hl).lt, fun e => by have := (one_fine.lines l hl).ne; rw [e] at this; exact absurd this (by decide)⟩⟩
theorem none_lines : Lines noneH := ⟨fun l hl => by
  have e : l = innL1 := by simpa [noneH] using hl
  subst e
  exact ⟨hl, by decide, by decide⟩⟩
theorem hall_feel {h : House} (e : h.rings = [hallR]) : feelersOf h = [(0, 0), (0, 2), (0, 3), (0, 6)] := by
  unfold feelersOf
  rw [e]
  exact feel_hall
section
variable {P : Program} {w : World} {K : PySem.W.Frag} {mg : Str → Option Value} {base : Heap}
abbrev HHangs (P : Program) (w : World) (K : PySem.W.Frag) (mg : Str → Option Value) (base : Heap) : Prop := Has P w K mg base 14 "hangs_on" ["house", "out", "spot"] (Pu R_hangs)
theorem R_hang {h : House} {k : Int} {s : Spot} (hr : h.rings = [hallR]) (sz : Size h) (ls : Lines h) (ho : okT 8 (eHouse h) = true) (k0 : 0 ≤ k) (k2 : k < 2) (hs : s ∈ [((0, 0) : Spot), (0, 2), (0, 3), (0, 6)]) {d : PyData} (e : d = .str (hangsOn h k s)) : R_hangs [eHouse h, .int k, eSpot s] d :=
  ⟨h, k, s, eHouse h, eSpot s, rfl, ho, tupD_house h, rfl, tupD_spot s, sz, ls, k0, k2, by rw [hall_feel hr]; exact hs, e⟩
def R_hand (ds : List PyData) (d : PyData) : Prop := ds = [] ∧ d = .bool true
def handWords : List Str := ["never", "some", "always", "never"]
theorem ok_law_hand_right {f : Addr} {fd : FuncData} {x : Str} (F : Fun K x x s_law_hand_right f fd) (H : Has P w K mg base 2 "_law_inn" [] (Pu R_inn)) (H1 : Has P w K mg base 1 "_law_put_at" ["_law_row_so", "_law_place_so", "_law_bit_so"] (Pu R_put_at)) (H2 : HHangs P w K mg base) (H3 : Has P w K mg base 2 "_law_same" ["_law_got", "_law_due"] (Pu R_same1)) : FnOk P w K mg base CX0 15 f fd [] (Pu R_hand) := by
  refine fn_pure F sc_law_hand_right (fun ds d ⟨e, _⟩ => by rw [e]; rfl) fun X T ds d C ⟨e, e2⟩ => ?_
  subst e e2
  refine b_set C 0 (d := eHouse innH) (e_call0 C H (by omega) ⟨rfl, rfl⟩) ?_
  refine b_set C 1 (d := eHouse oneH) ?_ ?_
  · show E X T _ _ (.tuple (([.tuple [eRing hallR]] ++ [.tuple [eZone oneZ, eZone innZ2]]) ++ [.tuple [eLine innL1, eLine innL2], .tuple [.str "bell", .str "door"], .int 1]))
    refine e_cat ?_ ?_ (Nat.le_of_ble_eq_true rfl)
    rotate_left
    · exact e_sl (ds := [.tuple [eRing hallR], .tuple [eZone innZ1, eZone innZ2], .tuple [eLine innL1, eLine innL2], .tuple [.str "bell", .str "door"], .int 1]) (l := some 2) (u := none) (e_var C 0 rfl) (eo_some e_int) eo_none
    refine e_cat ?_ ?_ (Nat.le_of_ble_eq_true rfl)
    · exact e_sl (ds := [.tuple [eRing hallR], .tuple [eZone innZ1, eZone innZ2], .tuple [eLine innL1, eLine innL2], .tuple [.str "bell", .str "door"], .int 1]) (l := none) (u := some 1) (e_var C 0 rfl) eo_none (eo_some e_int)
    refine e_tup ?_ (hl := ?_)
    · refine ea_cons ?_ ea_nil (hp := ?_)
      · refine e_tup ?_ (hl := ?_)
        · refine ea_cons ?_ ?_ (hp := ?_)
          · repeat' (first | exact ea_nil | exact e_int | exact e_str | exact e_none | refine ea_cons ?_ ?_ (hp := ?_) | refine e_tup ?_ (hl := ?_))
            all_goals first | rfl | exact Nat.le_of_ble_eq_true rfl
          · refine ea_cons ?_ ea_nil (hp := ?_)
            · exact e_ix (j := 1) (e_ix (j := 1) (e_var C 0 rfl) e_int rfl rfl) e_int rfl rfl
            · rfl
          · rfl
        · exact Nat.le_of_ble_eq_true rfl
      · rfl
    · exact Nat.le_of_ble_eq_true rfl
  refine b_set C 2 (d := eHouse noneH) ?_ ?_
  · refine e_call C H1 (by omega) (ds := [eHouse innH, eNat 2, .tuple [eLine innL1]]) ?_ ⟨[.tuple [eRing hallR], .tuple [eZone innZ1, eZone innZ2], .tuple [eLine innL1, eLine innL2], .tuple [.str "bell", .str "door"], .int 1], 2, .tuple [eLine innL1], rfl, Nat.le_of_ble_eq_true rfl, rfl⟩
    refine ea_cons ?_ ?_ (hp := ?_)
    · exact e_var C 0 rfl
    · refine ea_cons ?_ ?_ (hp := ?_)
      · exact e_int
      · refine ea_cons ?_ ea_nil (hp := ?_)
        · exact e_sl (ds := [eLine innL1, eLine innL2]) (l := none) (u := some 1) (e_ix (j := 2) (e_var C 0 rfl) e_int rfl rfl) eo_none (eo_some e_int)
        · rfl
      · rfl
    · rfl
  refine b_set C 3 (d := .list [.str "never", .str "some", .str "always"]) ?_ ?_
  · refine e_list ?_ (hl := ?_)
    · refine ea_cons ?_ ?_ (hp := ?_)
      · refine e_call C H2 (by omega) (ds := [eHouse innH, .int 0, eSpot (0, 3)]) ?_ (R_hang rfl inn_size inn_lines (by decide +kernel) (by decide) (by decide) (by decide) (by rw [hang1]))
        refine ea_cons ?_ (ea_cons ?_ (ea_cons ?_ ea_nil))
        · exact e_var C 0 rfl
        · exact e_int
        · exact e_tup (ea_cons e_int (ea_cons e_int ea_nil))
      · refine ea_cons ?_ ?_ (hp := ?_)
        · refine e_call C H2 (by omega) (ds := [eHouse innH, .int 1, eSpot (0, 2)]) ?_ (R_hang rfl inn_size inn_lines (by decide +kernel) (by decide) (by decide) (by decide) (by rw [hang2]))
          refine ea_cons ?_ (ea_cons ?_ (ea_cons ?_ ea_nil))
          · exact e_var C 0 rfl
          · exact e_int
          · exact e_tup (ea_cons e_int (ea_cons e_int ea_nil))
        · refine ea_cons ?_ ea_nil (hp := ?_)
          · refine e_call C H2 (by omega) (ds := [eHouse oneH, .int 1, eSpot (0, 0)]) ?_ (R_hang rfl one_size one_lines (by decide +kernel) (by decide) (by decide) (by decide) (by rw [hang3]))
            refine ea_cons ?_ (ea_cons ?_ (ea_cons ?_ ea_nil))
            · exact e_var C 1 rfl
            · exact e_int
            · exact e_tup (ea_cons e_int (ea_cons e_int ea_nil))
          · rfl
        · rfl
      · rfl
    · exact Nat.le_of_ble_eq_true rfl
  refine b_set C 3 (d := .list [.str "never", .str "some", .str "always", .str "never"]) ?_ ?_
  · show E X T _ _ (.list ([.str "never", .str "some", .str "always"] ++ [.str "never"]))
    refine e_catL ?_ ?_ (Nat.le_of_ble_eq_true rfl)
    · exact e_var C 3 rfl
    refine e_list ?_ (hl := ?_)
    · refine ea_cons ?_ ea_nil (hp := ?_)
      · refine e_call C H2 (by omega) (ds := [eHouse noneH, .int 1, eSpot (0, 0)]) ?_ (R_hang rfl none_size none_lines (by decide +kernel) (by decide) (by decide) (by decide) (by rw [hang4]))
        refine ea_cons ?_ (ea_cons ?_ (ea_cons ?_ ea_nil))
        · exact e_var C 2 rfl
        · exact e_int
        · exact e_tup (ea_cons e_int (ea_cons e_int ea_nil))
      · rfl
    · exact Nat.le_of_ble_eq_true rfl
  refine b_ret (e_call C H3 (by omega) (ds := [.list (handWords.map PyData.str), .list (handWords.map PyData.str)]) ?_ ⟨handWords, rfl, by decide +kernel, by decide, rfl⟩)
  refine ea_cons ?_ ?_ (hp := ?_)
  · exact e_var C 3 rfl
  · refine ea_cons ?_ ea_nil (hp := ?_)
    · refine e_list ?_ (hl := ?_)
      · repeat' (first | exact ea_nil | exact e_str | refine ea_cons ?_ ?_ (hp := ?_))
        all_goals rfl
      · exact Nat.le_of_ble_eq_true rfl
    · rfl
  · rfl
end
end Sk
set_option maxHeartbeats 1000000
/-! Sk22: right. -/
namespace Sk
open PySem PySem.Spec PyProof.Rows L2 PySem.W
theorem HouseOk.size {pn : Nat} {h : House} (o : HouseOk pn h) : Size h :=
  ⟨o.wires.wires.few, fun r hr => ⟨Nat.le_trans (o.wires.pieces r hr).1 (by decide), fun p hp => Nat.le_trans ((o.wires.pieces r hr).2 p hp) (by decide)⟩, o.wires.wires.words, Nat.le_trans o.zl (by decide), fun z hz => (o.zones z hz).le, Nat.le_trans o.ll (by decide), fun l hl => (o.lines l hl).le⟩
theorem HouseOk.zs {pn : Nat} {h : House} (o : HouseOk pn h) : Zones h := ⟨fun z hz => (o.zones z hz).kn⟩
theorem HouseOk.ls {pn : Nat} {h : House} (o : HouseOk pn h) : Lines h := ⟨fun l hl => ⟨hl, (o.lines l hl).lt, fun e => by have := (o.lines l hl).ne; rw [e] at this; simp at this⟩⟩
def wordsTo (h : House) (i : Nat) : List (Nat × Spot) := (List.range i).flatMap fun k => (feelersOf h).map fun s => (k, s)
theorem wordsTo_succ (h : House) (i : Nat) : wordsTo h (i + 1) = wordsTo h i ++ (feelersOf h).map fun s => (i, s) := by
  unfold wordsTo
  rw [List.range_succ, List.flatMap_append]
  simp
theorem mem_words {h : House} {i : Nat} {q : Nat × Spot} (hq : q ∈ wordsTo h i) : q.1 < i ∧ q.2 ∈ feelersOf h := by
  unfold wordsTo at hq
  obtain ⟨k, hk, hq⟩ := List.mem_flatMap.mp hq
  obtain ⟨s, hs, rfl⟩ := List.mem_map.mp hq
  exact ⟨List.mem_range.mp hk, hs⟩
theorem words_len (h : House) : ∀ i, (wordsTo h i).length = i * (feelersOf h).length
  | 0 => by simp [wordsTo]
  | i + 1 => by rw [wordsTo_succ, List.length_append, words_len h i, List.length_map, Nat.succ_mul]
def eW (h : House) (q : Nat × Spot) : PyData := .tuple [eNat q.1, eSpot q.2, .str (lawWord h q.1 q.2)]
theorem word_ok (h : House) (k : Int) (s : Spot) : PyData.strOk (lawWord h k s) = true := by
  rcases word_three h k s with e | e | e <;> (rw [e]; decide +kernel)
section
variable {P : Program} {w : World} {K : PySem.W.Frag} {mg : Str → Option Value} {base : Heap}
theorem w_par {k : Nat} {N : List Str} {sc own : Scope} {X : Cx} {T : Dom} {ps : List Own} {ρ : List (Option PyData)} {os : List OD} {pos : Pos} {Ω : Res → Prop} (C : At P w K mg base k N sc own X) (i j : Nat) {x y : Str} {a b : Expr} {d e : PyData} {rest : List Stmt} {px py pt pt2 : Pos} {kt k2 : Nat} (ha : E X (HT T ps) ρ a d) (hb : E X (HT T ps) ρ b e) (hr : XB X T ps ((ρ.set i (some d)).set j (some e)) os rest Ω)
    (h1 : offs ps i = true := by rfl) (h2 : offs ps j = true := by rfl)
    (hw : ∀ env : Env, env.scope = sc → swappedStores [.Tuple [.Name x px, .Name y py] kt pt] (.Tuple [a, b] k2 pt2) env = pure (some [x, y]) := by intro env h; cases env; subst h; rfl)
    (hi : N[i]? = some x := by decide +kernel) (hj : N[j]? = some y := by decide +kernel) (hij : i ≠ j := by decide) (hx : sc.names.lookup x = some .local := by decide +kernel) (hy : sc.names.lookup y = some .local := by decide +kernel)
    (hs : swapsWithSole [.Tuple [.Name x px, .Name y py] kt pt] (.Tuple [a, b] k2 pt2) pos.line X.env = pure false := by rfl) (hp : plainE a = true := by rfl) (hp2 : plainE b = true := by rfl) :
    XB X T ps ρ os (.Assign [.Tuple [.Name x px, .Name y py] kt pt] (.Tuple [a, b] k2 pt2) pos :: rest) Ω := fun σ H D s r n =>
  wss_cons (to_ws (ps_par C.calm (by rw [C.eN]; exact C.nd) (by rw [C.eN]; exact hi) (by rw [C.eN]; exact hj) hij (by rw [C.esc]; exact hx) (by rw [C.esc]; exact hy) pa_wa (hw X.env C.esc) hs) (twoA ha hb s.ok hp hp2 fun v u H1 e1 hv hu =>
    ⟨v, u, rfl, hr _ H1 D ((s.same e1).slots (((s.same e1).ok.set hv).set hu) fun q hq => by
      rw [List.getElem?_set_ne fun e => offs.ok h2 q hq e.symm, List.getElem?_set_ne fun e => offs.ok h1 q hq e.symm])
      (fun d2 os2 f2 v2 σ2 H2 ρ2 e2 => r d2 os2 f2 v2 σ2 H2 ρ2 (ExO.trans (.of e1) e2)) fun ρ2 os2 f2 σ2 H2 e2 => n ρ2 os2 f2 σ2 H2 (ExO.trans (.of e1) e2)⟩))
abbrev HWord (P : Program) (w : World) (K : PySem.W.Frag) (mg : Str → Option Value) (base : Heap) : Prop := Has P w K mg base 5 "_law_word" ["_law_abode_so", "_law_k", "_law_spot_so"] (Pu R_word)
def Pre_right (ds : List PyData) : Prop := ds = []
def R_right (ds : List PyData) (d : PyData) : Prop := d = .bool true
theorem upTo_get (n i : Nat) (h : i < (upTo n).length) : (upTo n)[i] = eNat i := by
  have h2 := h
  rw [upTo_length] at h2
  have := upTo_at h2
  rw [List.getElem?_eq_getElem h] at this
  exact Option.some.inj this
theorem ok_law_right {f : Addr} {fd : FuncData} {x : Str} (B : Bt mg) (F : Fun K x x s_law_right f fd) (H : HTake P w K mg base) (H1 : Has P w K mg base 6 "_law_rise" ["_law_tin", "_law_panels_so"] (PT 500 Pre_rise R_rise)) (H2 : Has P w K mg base 2 "_law_feelers" ["_law_wires_so"] (Pu R_lfeelers)) (H3 : HWord P w K mg base) (H4 : HHangs P w K mg base) (H5 : Has P w K mg base 6 "_law_lists" ["_law_matter"] (Pu (R_lists 5))) (H6 : Has P w K mg base 2 "_law_same" ["_law_got", "_law_due"] (Pu R_same1)) (H7 : Has P w K mg base 3 "_law_begun" ["_law_tin", "_law_wires_so", "_law_last_so"] (PT 60 Pre_begun R_begun)) (H8 : HOutAt P w K mg base) (H9 : HBut P w K mg base) :
    FnOk P w K mg base CX0 15 f fd ["_law_tin"] (PT 1000 Pre_right R_right) := by
  refine fn_tin F sc_law_right (fun ds e => by rw [e]; rfl) fun X T t n ds C e hn => ?_
  subst e
  refine w_set C 1 (Ψ := fun d os1 => ∃ pn h, d = eHouse h ∧ HouseOk pn h ∧ os1 = [.tin (n + 1 + 500)]) (x_callT C H1 (by decide) 0 rfl (xa_cons (Φ := fun d os1 => ∃ v : Nat, v < 2 ∧ d = eNat (1 + v) ∧ os1 = [.tin (n + 1)]) (x_add (Ψ := fun d os1 => d = .int 1 ∧ os1 = [.tin n]) (x_of e_int ⟨rfl, rfl⟩) fun d os1 ⟨e1, e2⟩ => by
    subst e1 e2
    exact x_take C H (by decide) 0 rfl (b := 2) (x_of e_int ⟨rfl, rfl⟩) rfl (by decide) (by decide) (by omega) fun r hr => ⟨1, (r : Int), rfl, rfl, r, hr, congrArg PyData.int (by omega), rfl⟩) fun d os1 ⟨v, hv, e1, e2⟩ => xa_nil ?_)) fun d os1 ⟨pn, h, e1, ho, e2⟩ => ?_
  · subst e1 e2
    exact ⟨n + 1, rfl, ⟨1 + v, rfl, by omega, by omega⟩, by omega, fun d ⟨pn, h, e1, e2, e3⟩ => ⟨pn, h, e2, e3, rfl⟩⟩
  subst e1 e2
  have sz := ho.size
  have fc : 3 ≤ (feelersOf h).length ∧ (feelersOf h).length ≤ 5 := ho.wires.count
  refine w_par C 2 3 (d := .list ((feelersOf h).map eSpot)) (e := .list []) (e_call C H2 (by decide) (ea_cons (e_ix (j := 0) (e_var C 1 rfl) e_int rfl rfl) ea_nil) ⟨h.rings, rfl, sz.wires, rfl⟩) (e_list ea_nil) ?_
  refine w_for C (ΦA := fun xs os1 => xs = upTo 2 ∧ os1 = [.tin (n + 1 + 500)]) (fun xs i ρi osi => xs = upTo 2 ∧ (∃ g, ρi = [none, some (eHouse h), some (.list ((feelersOf h).map eSpot)), some (.list ((wordsTo h i).map (eW h))), g, none, none, none, none, none, none, none]) ∧ osi = [.tin (n + 1 + 500)]) (i_of (it_range C B e_int (by decide)) ⟨rfl, rfl⟩) (fun xs os1 ⟨e1, e2⟩ => ⟨e1, ⟨none, rfl⟩, e2⟩) (fun xs i hlt ρi osi ⟨e1, ⟨g, e2⟩, e3⟩ => ?_) fun xs ρe ose ⟨e1, ⟨g, e2⟩, e3⟩ => ?_
  · subst e1 e2 e3
    have hi : i < 2 := by simpa [upTo] using hlt
    rw [upTo_get]
    refine ⟨_, _, tg_name C 4, rfl, ?_⟩
    refine w_set C 3 (Ψ := fun d os1 => d = .list ((wordsTo h (i + 1)).map (eW h)) ∧ os1 = [.tin (n + 1 + 500)]) (x_of (E.is (e_catL (ds := (wordsTo h i).map (eW h)) (es := (feelersOf h).map fun s => eW h (i, s)) (e_var C 3 rfl) (E.is (e_lc C [("_law_own", 8)] (ys := feelersOf h) eSpot (fun _ => true) (fun s => eW h (i, s)) (it_list (e_var C 2 rfl)) (fun s hs => ⟨_, _, by decide, fun X' T' C' => ⟨tg_name C' 8, ets_nil, fun _ => e_tp (ea_cons (e_var C' 4 rfl) (ea_cons (e_var C' 8 rfl) (ea_cons (e_call C' H3 (by decide) (ea_cons (e_var C' 1 rfl) (ea_cons (e_var C' 4 rfl) (ea_cons (e_var C' 8 rfl) ea_nil))) ⟨h, i, s, rfl, sz, ho.zs, ho.ls, hi, M1 ho.fine sz ho.ll i, rfl⟩) ea_nil)))⟩⟩) (by omega)) (by rw [made_all])) ?_) ?_) ⟨rfl, rfl⟩) fun d os1 ⟨e1, e2⟩ => ?_
    · rw [List.length_map, List.length_map, words_len]
      have : i * (feelersOf h).length ≤ 2 * 5 := Nat.mul_le_mul (by omega) fc.2
      omega
    · rw [wordsTo_succ, List.map_append, List.map_map] <;> rfl
    · subst e1 e2
      exact w_nil ⟨rfl, ⟨_, rfl⟩, rfl⟩
  · subst e1 e2 e3
    have wl : (wordsTo h (upTo 2).length).length ≤ 10 := by rw [upTo_length, words_len]; omega
    have wm : ∀ q ∈ wordsTo h (upTo 2).length, q.1 < 2 ∧ q.2 ∈ feelersOf h := fun q hq => by
      have := mem_words hq
      rw [upTo_length] at this
      exact this
    generalize wordsTo h (upTo 2).length = ws at wl wm
    refine w_lc C 5 [("_law_k", 4), ("_law_own", 8), ("_law_word_here", 9)] (ys := ws) (eW h) (fun _ => true) (fun q => .str (lawWord h q.1 q.2)) (it_list (e_var C 3 rfl)) (fun q hq => ⟨_, _, by decide, fun X' T' C' => ⟨tg_tup C' (tgs_cons (tg_name C' 4) (tgs_cons (tg_name C' 8) (tgs_cons (tg_name C' 9) tgs_nil))), ets_nil, fun _ => e_call C' H4 (Nat.le_refl _) (ea_cons (e_call C' H5 (by decide) (ea_cons (e_var C' 1 rfl) ea_nil) ⟨eHouse h, rfl, okT_house h sz, rfl⟩) (ea_cons (e_var C' 4 rfl) (ea_cons (e_listOf C' B (e_var C' 8 rfl) (.inl rfl)) ea_nil))) ⟨h, (q.1 : Int), q.2, listD (eHouse h), .list [.int q.2.1, .int q.2.2], rfl, okT_mono (by decide) (okT_list 5 _ (okT_house h sz)), by rw [tup_list, tupD_house], rfl, rfl, sz, ho.ls, by omega, by have := (wm q hq).1; omega, (wm q hq).2, by rw [M2 ho.fine]⟩⟩⟩) (by omega) ?_
    rw [made_all]
    have same : R_same1 [.list (ws.map fun q => .str (lawWord h q.1 q.2)), .list (ws.map fun q => .str (lawWord h q.1 q.2))] (.bool true) := ⟨ws.map fun q => lawWord h q.1 q.2, by rw [List.map_map]; rfl, fun a ha => by
      obtain ⟨q, _, rfl⟩ := List.mem_map.mp ha
      exact word_ok h _ _, by rw [List.length_map]; omega, rfl⟩
    refine w_ifF (ET.is (et_not (et_val (e_call C H6 (by decide) (ea_cons (e_var C 5 rfl) (ea_cons (E.is (e_lc C [("_law_k", 4), ("_law_own", 8), ("_law_word_here", 9)] (ys := ws) (eW h) (fun _ => true) (fun q => .str (lawWord h q.1 q.2)) (it_list (e_var C 3 rfl)) (fun q hq => ⟨_, _, by decide, fun X' T' C' => ⟨tg_tup C' (tgs_cons (tg_name C' 4) (tgs_cons (tg_name C' 8) (tgs_cons (tg_name C' 9) tgs_nil))), ets_nil, fun _ => e_var C' 9 rfl⟩⟩) (by omega)) (by rw [made_all])) ea_nil)) same))) rfl) ?_
    have bo : ∀ b : Row, b.length ≤ 20 → b.length ≤ 1000 := fun b hb => by omega
    have na : ("never" : Str) ≠ "always" := never_always
    refine w_for C (ΦA := fun xs os1 => xs = upTo 4 ∧ os1 = [.tin (n + 1 + 500)]) (fun xs i ρi osi => xs = upTo 4 ∧ (∃ g l b o wd o1 o2, ρi = [none, some (eHouse h), some (.list ((feelersOf h).map eSpot)), some (.list (ws.map (eW h))), g, some (.list (ws.map fun q => .str (lawWord h q.1 q.2))), l, b, o, wd, o1, o2]) ∧ osi = [.tin (n + 1 + 500 + 60 * i)]) (i_of (it_range C B e_int (by decide)) ⟨rfl, rfl⟩) (fun xs os1 ⟨e1, e2⟩ => ⟨e1, ⟨_, _, _, _, _, _, _, rfl⟩, e2⟩) (fun xs i hlt ρi osi ⟨e1, ⟨g, l, b, o, wd, o1, o2, e2⟩, e3⟩ => ?_) fun xs ρe ose ⟨e1, ⟨g, l, b, o, wd, o1, o2, e2⟩, e3⟩ => ?_
    · subst e1 e2 e3
      have hi : i < 4 := by simpa [upTo] using hlt
      refine ⟨_, _, tg_name C 6, rfl, ?_⟩
      refine w_set C 7 (Ψ := fun d os1 => ∃ b : Row, d = eRow b ∧ b.length ≤ 20 ∧ os1 = [.tin (n + 1 + 500 + 60 * i + 60)]) (x_callT C H7 (by decide) 0 rfl (xa_of (ea_cons (e_ix (j := 0) (e_var C 1 rfl) e_int rfl rfl) (ea_cons e_int ea_nil)) ⟨_, rfl, ⟨h.rings, 5, rfl, sz.wires, ho.wires.nodup, by have := ho.wires.count; omega, by have := ho.wires.count; omega, by decide⟩, by omega, fun d ⟨rings, last, b, e1, e2, e3, e4⟩ => ⟨b, e2, e4, rfl⟩⟩)) fun d os1 ⟨bg, e1, bl, e2⟩ => ?_
      subst e1 e2
      refine w_for C (ΦA := fun xs os1 => xs = ws.map (eW h) ∧ os1 = [.tin (n + 1 + 500 + 60 * i + 60)]) (fun xs j ρj osj => xs = ws.map (eW h) ∧ (∃ g o wd o1 o2, ρj = [none, some (eHouse h), some (.list ((feelersOf h).map eSpot)), some (.list (ws.map (eW h))), g, some (.list (ws.map fun q => .str (lawWord h q.1 q.2))), some (upTo 4)[i], some (eRow bg), o, wd, o1, o2]) ∧ osj = [.tin (n + 1 + 500 + 60 * i + 60)]) (i_of (it_list (e_var C 3 rfl)) ⟨rfl, rfl⟩) (fun xs os1 ⟨e1, e2⟩ => ⟨e1, ⟨_, _, _, _, _, rfl⟩, e2⟩) (fun xs j hjt ρj osj ⟨e1, ⟨g, o, wd, o1, o2, e2⟩, e3⟩ => ?_) fun xs ρe ose ⟨e1, ⟨g, o, wd, o1, o2, e2⟩, e3⟩ => ?_
      · subst e1 e2 e3
        have hj : j < ws.length := by simpa using hjt
        rw [List.getElem_map]
        have wq := wm ws[j] (List.getElem_mem hj)
        generalize ws[j] = q at wq
        refine ⟨_, _, tg_tup C (tgs_cons (tg_name C 4) (tgs_cons (tg_name C 8) (tgs_cons (tg_name C 9) tgs_nil))), rfl, ?_⟩
        refine w_set C 10 (Ψ := fun d os1 => d = optD (outNow h bg q.1) ∧ os1 = [.tin (n + 1 + 500 + 60 * i + 60)]) (x_of (e_call C H8 (by decide) (ea_cons (e_var C 1 rfl) (ea_cons (e_var C 7 rfl) (ea_cons (e_var C 4 rfl) ea_nil))) ⟨h, bg, q.1, rfl, sz, ho.zs, ho.ls, wq.1, rfl⟩) ⟨rfl, rfl⟩) fun d os1 ⟨e1, e2⟩ => ?_
        subst e1 e2
        refine w_set C 11 (Ψ := fun d os1 => d = optD (outNow h (butR bg q.2) q.1) ∧ os1 = [.tin (n + 1 + 500 + 60 * i + 60)]) (x_of (e_call C H8 (by decide) (ea_cons (e_var C 1 rfl) (ea_cons (e_call C H9 (by decide) (ea_cons (e_var C 7 rfl) (ea_cons (e_tp (ea_cons (e_var C 8 rfl) ea_nil)) ea_nil)) ⟨bg, [q.2], rfl, bo bg bl, rfl⟩) (ea_cons (e_var C 4 rfl) ea_nil))) ⟨h, butR bg q.2, q.1, rfl, sz, ho.zs, ho.ls, wq.1, rfl⟩) ⟨rfl, rfl⟩) fun d os1 ⟨e1, e2⟩ => ?_
        subst e1 e2
        refine w_ifF (EW.et (ew_or (x := false) (y := false) (ET.is (EW.et (ew_and (x := decide (lawWord h q.1 q.2 = "never")) (y := !decide (outNow h bg q.1 = outNow h (butR bg q.2) q.1)) (et_cmp ((c_eq C (e_var C 9 rfl) e_str (str_Lay _ (word_ok h _ _)) (str_Lay _ (by decide +kernel))).is (eqv_str _ _))) fun _ => ew_and1 (et_cmp ((c_ne C (e_var C 10 rfl) (e_var C 11 rfl) (opt_Lay _) (opt_Lay _)).is (by rw [opt_eqv]))))) ?_) fun _ => ew_or1 (ET.is (EW.et (ew_and (x := decide (lawWord h q.1 q.2 = "always")) (y := !isNone (optD (outNow h (butR bg q.2) q.1))) (et_cmp ((c_eq C (e_var C 9 rfl) e_str (str_Lay _ (word_ok h _ _)) (str_Lay _ (by decide +kernel))).is (eqv_str _ _))) fun _ => ew_and1 (et_cmp (c_notN (e_var C 11 rfl))))) ?_))) ?_
        · by_cases e : lawWord h q.1 q.2 = "never"
          · rw [decide_eq_true (M3 ho.fine e bg), Bool.not_true, Bool.and_false]
          · rw [decide_eq_false e, Bool.false_and]
        · by_cases e : lawWord h q.1 q.2 = "always"
          · rw [M4 ho.fine e bg, Bool.and_comm]
            rfl
          · rw [decide_eq_false e, Bool.false_and]
        · exact w_nil ⟨rfl, ⟨_, _, _, _, _, rfl⟩, rfl⟩
      · subst e1 e2 e3
        exact w_nil ⟨rfl, ⟨_, _, _, _, _, _, _, rfl⟩, by rw [Nat.mul_add, Nat.add_assoc (n + 1 + 500)]⟩
    · subst e1 e2 e3
      exact w_ret (x_of e_bool ⟨_, _, rfl, by rw [upTo_length]; omega, rfl⟩)
end
end Sk
set_option maxHeartbeats 1000000
/-! Sk23: cells, box. -/
namespace Sk
open PySem PySem.Spec PyProof.Rows L2 PySem.W
section
variable {P : Program} {w : World} {K : PySem.W.Frag} {mg : Str → Option Value} {base : Heap}
/-! ### box -/
def boxD (x : Int) : PyData := .list [.int ((if x < 0 then -x else x) * (if decide ((1000000000000000000 : Int) ≤ (if x < 0 then -x else x)) = true then 1 else 0)), .int (x % 2305843009213693951 + 39373 * 0 + 3162021), .int 0]
def R_box (ds : List PyData) (d : PyData) : Prop := ∃ x : Int, ds = [.list [.int x], .int 0] ∧ d = boxD x
theorem e_pow {X : Cx} {T : Dom} {ρ : List (Option PyData)} {pos : Pos} {a b : Expr} {i j : Int} (ha : E X T ρ a (.int i)) (hb : E X T ρ b (.int j)) (hc : CPow i j) : E X T ρ (.BinOp a .Pow b pos) (.int (i ^ j.toNat)) := e_bin op_pow ha hb hc
theorem ok_law_box {f : Addr} {fd : FuncData} {x : Str} (B : Bt mg) (F : Fun K x x s_law_box f fd) : FnOk P w K mg base CX0 1 f fd ["_law_script", "_law_k"] (Pu R_box) := by
  refine fn_pure F sc_law_box (fun ds d ⟨_, e, _⟩ => by rw [e]; rfl) fun X T ds d C ⟨x, e, e2⟩ => ?_
  subst e e2
  refine b_set C 2 (d := .int x) (e_if (x := true) (ET.is (et_cmp (c_lt (e_var C 1 rfl) (e_len C B (e_var C 0 rfl) (.inr rfl)))) rfl) (fun _ => e_ixL (j := 0) (e_var C 0 rfl) (e_var C 1 rfl) rfl rfl) (fun z => by cases z)) ?_
  have bb : ∀ b : Bool, (-2 ^ 64 < (if b = true then (1 : Int) else 0)) ∧ (if b = true then (1 : Int) else 0) < 2 ^ 64 := fun b => by cases b <;> decide
  refine b_ret (e_list ?_ (hl := Nat.le_of_ble_eq_true rfl))
  refine ea_cons ?_ ?_
  · exact e_mul (e_abs C B (e_var C 2 rfl)) (e_intB C B (e_cmp (c_ge (e_abs C B (e_var C 2 rfl)) ((e_pow (i := 10) (j := 18) e_int e_int ⟨by decide, by decide, by decide⟩).is (c := .int 1000000000000000000) rfl)))) (.inr (bb _))
  · refine ea_cons ?_ (ea_cons e_int ea_nil)
    exact e_add (e_add (e_mod (e_int1 C B (e_var C 2 rfl)) e_int (by decide)) (e_mul e_int (e_var C 1 rfl) (.inl ⟨by decide, by decide⟩))) e_int
/-! ### cells: the script is read where it lies -/
/-- an expression read from slot 0, a list of the outside -/
def ES (X : Cx) (a0 : Addr) (us : List V) (T : Dom) (ρ : List (Option PyData)) (e : Expr) (d : PyData) : Prop :=
  ∀ σ H Q, Ok T ρ σ H → σ[0]? = some (some (.ref a0)) → SqL X.K H a0 us → (∀ v H', Same H H' → Da (hid T H') v d → Q v H') → we X e σ H Q
section
variable {k : Nat} {N : List Str} {sc own : Scope} {X : Cx} {T : Dom} {ps : List Own} {ρ : List (Option PyData)} {os : List OD} {pos : Pos} {a0 : Addr} {us : List V} {ds : List PyData}
theorem es_sl1 (C : At P w K mg base k N sc own X) (hu : ∀ G, Das G us ds) {x : Str} {p p2 : Pos} {hi : Expr} {j : Nat} (hh : E X T ρ hi (.int (j : Int))) (nm : nameOk N sc 0 x = true := by decide +kernel) :
    ES X a0 us T ρ (.Subscript (.Name x p) (.Slice none (some hi) none p2) pos) (.list (cutD ds none (some j))) := fun σ H Q ok h0 hS q =>
  to_we (pe_slice sl_list pe_we po_none (po_some pe_we)) (to_we (pe_name C 0 nm) ⟨.ref a0, h0, hh σ H _ ok fun w H2 e2 h2 => ⟨_, h2.int_inv, a0, us, rfl, e2.seq hS, fun n nn => q _ _ (same_new2 e2 nn) (.lst (hid_new (ok.1.mono e2) nn) ((cut_is us ds (hu (hid T H2)) none (some j)).mono (same_hid (same_new nn))))⟩⟩)
theorem es_sl2 (C : At P w K mg base k N sc own X) (hu : ∀ G, Das G us ds) {x : Str} {p p2 : Pos} {lo hi : Expr} {i j : Nat} (hl : E X T ρ lo (.int (i : Int))) (hh : E X T ρ hi (.int (j : Int))) (nm : nameOk N sc 0 x = true := by decide +kernel) :
    ES X a0 us T ρ (.Subscript (.Name x p) (.Slice (some lo) (some hi) none p2) pos) (.list (cutD ds (some i) (some j))) := fun σ H Q ok h0 hS q =>
  to_we (pe_slice sl_list pe_we (po_some pe_we) (po_some pe_we)) (to_we (pe_name C 0 nm) ⟨.ref a0, h0, hl σ H _ ok fun w H1 e1 h1 => ⟨_, h1.int_inv, hh σ H1 _ (ok.same e1) fun w2 H2 e2 h2 => ⟨_, h2.int_inv, a0, us, rfl, (e1.trans e2).seq hS, fun n nn => q _ _ (same_new2 (e1.trans e2) nn) (.lst (hid_new (ok.1.mono (e1.trans e2)) nn) ((cut_is us ds (hu (hid T H2)) (some i) (some j)).mono (same_hid (same_new nn))))⟩⟩⟩)
/-- list(s) or [n], a new list of one's own -/
theorem ef_listOr (C : At P w K mg base k N sc own X) (B : Bt mg) {e : Expr} {es : List PyData} {n : Int} {p cp lp cj : Pos} {kc : Nat} {σ : L2.St} {H : Hp} {Q : VK} (he : ES X a0 us T ρ e (.list es)) (ok : Ok T ρ σ H) (h0 : σ[0]? = some (some (.ref a0))) (hS : SqL X.K H a0 us)
    (q : ∀ q H1 xs, Same H H1 → H1 q = none → Das (hid T H1) xs (if es = [] then [.int n] else es) → Q (.ref q) (upd H1 q (.lst xs))) (hx : globOk sc "list" = true := by decide +kernel) (hp : plainE e = true := by rfl) :
    we X (.BoolOp .Or [.Call (.Name "list" p) [e] [] cp, .List [.Constant (.int n) kc cj] lp] pos) σ H Q :=
  to_we (pe_orT pe_we (pe_one pe_we)) (we_callTy C call_list_of hx B.list (by decide +kernel) (by rw [List.all_cons, hp]; rfl) (to_wa (pa_cons pe_we pa_nil (star_plain hp)) (he σ H _ ok h0 hS fun v H1 e1 hv => by
    obtain ⟨b, vs, rfl, h2, h3⟩ := hv.lst_inv
    refine ⟨b, vs, rfl, .inl (seqL h2), fun l nl => ?_⟩
    refine ⟨!vs.isEmpty, .inl ⟨vs, .inl (.inl upd_same), rfl⟩, ?_⟩
    by_cases z : es = []
    · subst z
      cases h3
      rw [if_neg (by simp)]
      have sm : Same H1 (upd H1 l (.lst [])) := same_new nl
      exact to_we (pe_lst (pa_cons pe_int pa_nil)) ⟨by simp [sizeLine], fun q2 nq => q q2 _ [.int n] (e1.trans sm) nq (.cons (.int n) .nil)⟩
    · have : vs ≠ [] := fun e => by
        subst e
        cases h3
        exact z rfl
      rw [if_pos (by cases vs with | nil => exact absurd rfl this | cons a l => rfl)]
      exact q l H1 vs e1 nl (by rw [if_neg z]; exact h3))))
end
end
end Sk
set_option maxHeartbeats 1000000
/-! Sk24: cells, law. -/
namespace Sk
open PySem PySem.Spec PyProof.Rows L2 PySem.W
section
variable {P : Program} {w : World} {K : PySem.W.Frag} {mg : Str → Option Value} {base : Heap}
section
variable {k : Nat} {N : List Str} {sc own : Scope} {X : Cx} {T : Dom} {ps : List Own} {ρ : List (Option PyData)} {os : List OD} {pos : Pos} {a0 : Addr} {us : List V} {ds : List PyData} {Ω : Res → Prop}
def ITat (X : Cx) (T : Dom) (tg it : Expr) (xs : List PyData) (σ : L2.St) (H : Hp) : Prop :=
  ∀ R, (∀ H1 (J : It) (G : Hp → Prop) (Y : Nat → Hp → V → Hp → Prop), Same H H1 → Walk J xs.length G Y → (∀ (T2 : Dom) H2, Same (hid T H1) (hid T2 H2) → G H2) →
    (∀ (T2 : Dom) i H2 x H3, Same (hid T H1) (hid T2 H2) → TOk T2 H2 → Y i H2 x H3 → Same H2 H3 ∧ ∃ d, xs[i]? = some d ∧ Da (hid T2 H3) x d) → R J H1) → wi X tg it σ H R
theorem it_enumS (C : At P w K mg base k N sc own X) (B : Bt mg) {p tpos : Pos} {elts : List Expr} {kk : Nat} {e : Expr} {σ : L2.St} {H : Hp} (h : ES X a0 us T ρ e (.list ds)) (ok : Ok T ρ σ H) (h0 : σ[0]? = some (some (.ref a0))) (hS : SqL X.K H a0 us) (hx : globOk sc "enumerate" = true := by decide +kernel) (hp : plainE e = true := by rfl) :
    ITat X T (.Tuple elts kk tpos) (.Call (.Name "enumerate" p) [e] [] pos) (numbered 0 ds) σ H := fun R q =>
  to_wi (pi_enum (C.gl hx) (by rw [C.emg]; exact B.enumerate) pa_wa (star_plain hp)) (to_wa (pa_cons pe_we pa_nil (star_plain hp)) (h σ H _ ok h0 hS fun v H1 e1 hv => by
    obtain ⟨a, vs, rfl, ha, hvs⟩ := hv.lst_inv
    refine ⟨a, vs, rfl, seqL ha, q H1 _ _ _ e1 (by rw [numbered_length, ← hvs.length]; exact walk_enum (xs := vs)) (fun T2 H2 s => seqL (s _ _ ha)) fun T2 i H2 x H3 s tk y => ?_⟩
    obtain ⟨t, x1, x2, rfl, nt', rfl, y1, y2⟩ := y
    obtain ⟨d, h1, h2⟩ := hvs.at y2
    refine ⟨same_new nt', _, numbered_at 0 ds i d h1, ?_⟩
    have e3 : x1 = .int (i : Nat) := (Option.some.inj y1).symm
    rw [e3, Nat.zero_add]
    exact da_pair (hid_new tk nt') (.int _) ((h2.mono s).mono (same_hid (same_new nt')))))
theorem w_forS (C : At P w K mg base k N sc own X) {tg it : Expr} {body rest : List Stmt} {σ : L2.St} {H : Hp} {D : Ends} {xs : List PyData} (s : SS T ps ρ os σ H) (hi : ITat X (HT T ps) tg it xs σ H) (I : Nat → List (Option PyData) → List OD → Prop) (h0 : I 0 ρ os)
    (turn : ∀ i (h : i < xs.length) ρi osi, I i ρi osi → ∃ ρ' is, TG1 X (HT T ps) tg xs[i] ρi ρ' is ∧ (is.all (offs ps) = true) ∧ XB X T ps ρ' osi body (fun r => match r with | .rt d os' => Ω (.rt d os') | .nx ρ2 os2 => I (i + 1) ρ2 os2))
    (hr : ∀ ρe ose, I xs.length ρe ose → XB X T ps ρe ose rest Ω)
    (r : ∀ d os', Ω (.rt d os') → ∀ v σ' H' ρ', ExO ps H H' → SS T ps ρ' os' σ' H' → Da (hid T H') v d → D.rt v H') (n : ∀ ρ' os', Ω (.nx ρ' os') → ∀ σ' H', ExO ps H H' → SS T ps ρ' os' σ' H' → D.nx σ' H')
    (hs : ∀ x, foldedSetIterable it X.env x = pure x := by intro _; rfl) : wss X (.For tg it body [] pos :: rest) D σ H :=
  wss_cons (to_ws (ps_for (by rw [C.xe]; exact PassesOwn.never) C.calm pi_wi pg_wg pss_wss hs) (hi _ fun H1 J G Y e1 W hG hY => by
    have s1 := s.same e1
    refine for_it W (fun i σ2 H2 => ExO ps H1 H2 ∧ ∃ ρi osi, I i ρi osi ∧ SS T ps ρi osi σ2 H2) ⟨.refl, ρ, os, h0, s1⟩ (fun i σ2 H2 _ p => hG (HT T ps) H2 (exo_hid p.1)) (fun i x σ2 H2 H3 hlt p y => ?_) fun σ2 H2 p => ?_
    · obtain ⟨p1, ρi, osi, p2, p3⟩ := p
      obtain ⟨e3, d, hd, dx⟩ := hY (HT T ps) i H2 x H3 (exo_hid p1) p3.ok.1 y
      rw [List.getElem?_eq_getElem hlt] at hd
      have hd' : xs[i] = d := Option.some.inj hd
      subst hd'
      obtain ⟨ρ', is, tr, ho, tb⟩ := turn i hlt ρi osi p2
      have s3 := p3.same e3
      have e13 : ExO ps H1 H3 := p1.trans (.of e3)
      exact tr x σ2 H3 _ s3.ok dx fun σ' ok' _ o' => tb σ' H3 _ (s3.slots ok' fun q hq => o' q.1 fun z => offs.ok (List.all_eq_true.mp ho _ z) q hq rfl)
        (fun d4 os4 f4 v4 σ4 H4 ρ4 e4 => r d4 os4 f4 v4 σ4 H4 ρ4 (ExO.trans (.of e1) (e13.trans e4))) fun ρ4 os4 f4 σ4 H4 e4 s4 => ⟨e13.trans e4, ρ4, os4, f4, s4⟩
    · obtain ⟨p1, ρi, osi, p2, p3⟩ := p
      exact hr ρi osi p2 σ2 H2 D p3 (fun d4 os4 f4 v4 σ4 H4 ρ4 e4 => r d4 os4 f4 v4 σ4 H4 ρ4 (ExO.trans (.of e1) (p1.trans e4))) fun ρ4 os4 f4 σ4 H4 e4 => n ρ4 os4 f4 σ4 H4 (ExO.trans (.of e1) (p1.trans e4))))
end
def noT : Dom := fun _ => False
theorem noT_ok {H : Hp} : TOk noT H := fun a t => t.elim
theorem hid_noT (H : Hp) : hid noT H = H := by
  funext a
  exact hid_no id
/-- the promise of cells: one whole number in a list -/
def PCells (K : PySem.W.Frag) : Sp := fun vs H Q _ => ∃ (a : Addr) (ns : List Int), vs = [.ref a, .int 1] ∧ SqL K H a (ns.map V.int) ∧ ns.length ≤ 63 ∧ ∀ v H' (x : Int), Same H H' → Da H' v (.list [.int x]) → Q v H'
theorem all_ints {ns : List Int} {d : PyData} (lo hi : Option Nat) (h : d ∈ cutD (ns.map PyData.int) lo hi) : ∃ n : Int, d = .int n := by
  have : ∀ l : List PyData, d ∈ cutD l lo hi → d ∈ l := fun l h => by
    unfold cutD cutG at h
    split at h <;> first | exact h | exact List.mem_of_mem_drop h | exact List.mem_of_mem_take h | exact List.mem_of_mem_drop (List.mem_of_mem_take h) | exact List.mem_of_mem_take (List.mem_of_mem_drop h)
  obtain ⟨n, _, e⟩ := List.mem_map.mp (this _ h)
  exact ⟨n, e.symm⟩
theorem numbered_get (ds : List PyData) (i : Nat) (h : i < (numbered 0 ds).length) : ∃ d ∈ ds, (numbered 0 ds)[i] = .tuple [.int (i : Int), d] := by
  have h2 := h
  rw [numbered_length] at h2
  have := numbered_at 0 ds i ds[i] (List.getElem?_eq_getElem h2)
  rw [List.getElem?_eq_getElem h, Nat.zero_add] at this
  exact ⟨_, List.getElem_mem h2, Option.some.inj this⟩
theorem cells_first {ns : List Int} : ∃ x : Int, (if cutD (ns.map PyData.int) none (some 1) = [] then [.int 0] else cutD (ns.map PyData.int) none (some 1)) = [PyData.int x] := by
  cases ns with
  | nil => exact ⟨0, rfl⟩
  | cons n ns => exact ⟨n, by rw [if_neg]; · rfl
                              · intro z; cases z⟩
theorem ok_law_cells {f : Addr} {fd : FuncData} {x : Str} (B : Bt mg) (F : Fun K x x s_law_cells f fd) : FnOk P w K mg base CX0 1 f fd ["_law_script", "_law_most_so"] (PCells K) := by
  refine fn_any F sc_law_cells (fun vs H Q E ⟨a, ns, e, _⟩ => by rw [e]; rfl) fun X C vs H Q E ⟨a, ns, e, hS, hl, q⟩ => ?_
  subst e
  have hS' : SqL X.K H a (ns.map V.int) := by rw [C.eK]; exact hS
  have ok : Ok noT [none, some (.int 1), none, none, none, none] [some (.ref a), some (.int 1), none, none, none, none] H := ⟨noT_ok, rfl, fun i d h => by
    match i, h with
    | 0, h => cases h
    | 1, h => cases h; exact ⟨.int 1, rfl, .int 1⟩
    | 2, h => cases h
    | 3, h => cases h
    | 4, h => cases h
    | 5, h => cases h
    | n + 6, h => simp at h⟩
  have s0 : SS noT [] [none, some (.int 1), none, none, none, none] [] [some (.ref a), some (.int 1), none, none, none, none] H := ⟨by rw [HT_nil]; exact ok, .nil, List.nodup_nil⟩
  refine wss_cons (ws_set C (i := 2) (by decide +kernel) rfl (ef_listOr C B (T := noT) (es_sl1 C (fun G => Das.ints ns) (j := 1) (e_var C 1 rfl)) ok rfl hS' fun p H1 xs e1 np hxs => ?_))
  obtain ⟨x0, e0⟩ := cells_first (ns := ns)
  rw [e0] at hxs
  have s1 : SS noT [(2, p)] [none, some (.int 1), none, none, none, none] [.lst [.int x0]] [some (.ref a), some (.int 1), some (.ref p), none, none, none] (upd H1 p (.lst xs)) := (s0.same e1).with (i := 2) (o := .lst [.int x0]) np ⟨xs, rfl, by rw [HT_nil]; exact hxs⟩ id (fun q hq => by simp at hq) (by decide)
  have sm : Same H (upd H1 p (.lst xs)) := e1.trans (same_new np)
  refine w_forS C s1 (Ω := fun r => match r with | .rt d _ => ∃ x : Int, d = .list [.int x] | .nx _ _ => False) (it_enumS C B (es_sl2 C (fun G => Das.ints ns) (i := 1) (j := 63) (e_var C 1 rfl) e_int) s1.ok rfl (sm.seq hS')) (fun i ρi osi => ∃ g1 g2 g3 x, ρi = [none, some (.int 1), none, g1, g2, g3] ∧ osi = [.lst [.int x]]) ⟨_, _, _, _, rfl, rfl⟩ (fun i hlt ρi osi ⟨g1, g2, g3, x, e2, e3⟩ => ?_) (fun ρe ose ⟨g1, g2, g3, x, e2, e3⟩ => ?_) (fun d os' ⟨x, ed⟩ v σ' H' ρ' e' s' dv => ?_) fun _ _ z => z.elim
  · subst e2 e3
    obtain ⟨d, hd, ed⟩ := numbered_get _ i hlt
    obtain ⟨c, rfl⟩ := all_ints _ _ hd
    rw [ed]
    refine ⟨_, _, tg_tup C (tgs_cons (tg_name C 3) (tgs_cons (tg_name C 4) tgs_nil)), rfl, ?_⟩
    refine w_set C 5 (Ψ := fun d os1 => d = .int 0 ∧ os1 = [.lst [.int x]]) (x_of ((e_mod (e_int1 C B (e_var C 3 rfl)) (e_var C 1 rfl) (by decide)).is (by rw [Int.emod_one])) ⟨rfl, rfl⟩) fun d os1 ⟨e1, e2⟩ => ?_
    subst e1 e2
    refine w_setL C 0 (m := 0) (d := .int (x + c * ((i : Int) + 2))) rfl rfl (e_add (e_ixL (j := 0) (e_var C 2 rfl) (e_var C 5 rfl) rfl rfl) (e_mul (e_var C 4 rfl) (e_add (e_var C 3 rfl) e_int) (.inr ?_))) rfl (e_var C 5 rfl) (Nat.le_of_ble_eq_true rfl) (w_nil ⟨_, _, _, _, rfl, rfl⟩)
    have hb : (cutD (ns.map PyData.int) (some 1) (some 63)).length ≤ ns.length := by
      unfold cutD cutG
      simp
      omega
    rw [numbered_length] at hlt
    omega
  · subst e2 e3
    exact w_retF (e_var C 2 rfl) ⟨x, rfl⟩
  · subst ed
    refine q v H' x (fun b o hb => e' b o (fun r hr z => ?_) (sm b o hb)) (by rw [hid_noT] at dv; exact dv)
    rw [List.mem_singleton] at hr
    subst hr
    exact ne_of_none (e1 b o hb) np z.symm
end
end Sk
set_option maxHeartbeats 1000000
/-! Sk25: law. -/
namespace Sk
open PySem PySem.Spec PyProof.Rows L2 PySem.W
section
variable {P : Program} {w : World} {K : PySem.W.Frag} {mg : Str → Option Value} {base : Heap}
def PLaw (K : PySem.W.Frag) : Sp := fun vs H Q _ => ∃ (a : Addr) (ns : List Int), vs = [.ref a] ∧ SqL K H a (ns.map V.int) ∧ ns.length ≤ 63 ∧ ∀ H', Q (.bl true) H'
theorem right_tin {H : Hp} {v : V} {x : Int} (h : Da H v (boxD x)) : ∃ p u, v = .ref p ∧ H p = some u ∧ OAtU H u (.tin 0) := by
  unfold boxD at h
  obtain ⟨p, vs, rfl, hp, hvs⟩ := h.lst_inv
  have bb : ∀ b : Bool, (0 : Int) ≤ (if b = true then (1 : Int) else 0) := fun b => by cases b <;> decide
  have e : vs = _ := Das.ints_inv (ns := [_, _, 0]) hvs
  subst e
  refine ⟨p, _, rfl, hp, _, _, _, rfl, ?_, ?_, ?_, ?_, ?_⟩
  · refine Int.mul_nonneg ?_ (bb _)
    split <;> omega
  · have := Int.emod_nonneg x (show (2305843009213693951 : Int) ≠ 0 by decide)
    omega
  · have := Int.emod_lt_of_pos x (show (0 : Int) < 2305843009213693951 by decide)
    show x % 2305843009213693951 + 39373 * 0 + 3162021 < 2 ^ 62
    omega
  · exact Int.le_refl 0
  · exact Int.le_refl 0
theorem ok_law {f : Addr} {fd : FuncData} (F : Fun K "law" "law" s_law f fd) (H1 : Has P w K mg base 15 "_law_hand_right" [] (Pu R_hand)) (H2 : Has P w K mg base 15 "_law_right" ["_law_tin"] (PT 1000 Pre_right R_right)) (H3 : Has P w K mg base 1 "_law_box" ["_law_script", "_law_k"] (Pu R_box)) (H4 : Has P w K mg base 1 "_law_cells" ["_law_script", "_law_most_so"] (PCells K)) : FnOk P w K mg base CX0 16 f fd ["_law_script"] (PLaw K) := by
  refine fn_any F sc_law (fun vs H Q E ⟨a, ns, e, _⟩ => by rw [e]; rfl) fun X C vs H Q E ⟨a, ns, e, hS, hl, q⟩ => ?_
  subst e
  refine wss_cons (to_ws (ps_ret pe_we) (to_we (pe_and pe_we (pe_one pe_we)) ?_))
  refine we_call0 C H1 (Nat.le_refl _) (by decide +kernel) ⟨noT, [], .bool true, noT_ok, .nil, ⟨rfl, rfl⟩, fun v Ha ea hv => ?_⟩
  refine ⟨true, hv.bool_inv, ?_⟩
  rw [if_pos rfl]
  refine we_call C H2 (Nat.le_refl _) (by decide +kernel) (by rfl) (to_wa (pa_cons pe_we pa_nil (star_plain (by rfl))) ?_)
  refine we_call C H3 (by decide) (by decide +kernel) (by rfl) (to_wa (pa_cons pe_we (pa_cons pe_int pa_nil (star_plain rfl)) (star_plain (by rfl))) ?_)
  refine we_call C H4 (by decide) (by decide +kernel) (by rfl) (to_wa (pa_cons pe_we (pa_cons pe_int pa_nil (star_plain rfl)) (star_plain (by rfl))) (to_we (pe_name C 0 (by decide +kernel)) ⟨.ref a, rfl, ⟨a, ns, rfl, ea.seq hS, hl, fun v1 Hb x eb hb => ?_⟩⟩))
  refine ⟨noT, [.list [.int x], .int 0], boxD x, noT_ok, ?_, ⟨x, rfl, rfl⟩, fun v2 Hc ec hc => ?_⟩
  · rw [hid_noT]
    exact .cons hb (.cons (.int 0) .nil)
  · rw [hid_noT] at hc
    obtain ⟨p, u, rfl, hp, hu⟩ := right_tin hc
    refine ⟨fun b => b = p, p, [], [], 0, rfl, ?_, rfl, ⟨u, hp, hu⟩, .nil, rfl, by decide, fun v3 Hd d hR ed _ hd => ?_⟩
    · intro b hb
      subst hb
      exact ⟨u, hp, hu.tup⟩
    · cases hR
      rw [hd.bool_inv]
      exact q Hd
end
end Sk
set_option maxHeartbeats 0
/-! Hd1: the head: facts by names, the run (printed by gen_hd1.py). -/
namespace Sk
open PySem PySem.Spec PyProof.Rows L2
def dOf (x : Str) (st : Stmt) : He.FnD := ⟨(x, none), x, x, defArgs st, defBody st, defScope st⟩
def loose0 : List Str := ["NoSpot", "NoOut", "TooMany", "Unfit", "tupled", "set_of", "MOST_ROWS", "is_over", "least_of", "knock_form", "after", "joined", "either", "both", "without", "spots_of", "feelers", "rises", "ZONES", "LINES", "OUTS", "WHEN", "ASKED", "WAIT", "OUT", "rising", "some_spots", "sure_out", "form_of_zone", "form_of_line"]
def loose1 : List Str := ["form_of_out", "hangs_on", "_law_box", "_law_take", "_law_cells", "_law_of", "_law_pick", "_law_lists", "_law_same", "_law_hall", "_law_inn", "_law_spots", "_law_feelers", "_law_kth", "_law_hours", "_law_line_hour", "_law_outs", "_law_loop", "_law_wires", "_law_zone", "_law_line", "_law_abode", "_law_begun", "_law_put_at", "_law_meet_rows", "_law_zone_rows", "_law_line_rows", "_law_fire_of", "_law_fires", "_law_out_at"]
def loose2 : List Str := ["_law_but", "_law_rise", "_law_hand_right", "_law_word", "_law_right"]
def looseAll : List Str := loose0 ++ loose1 ++ loose2
def fns0 : List He.FnD := [dOf "tupled" s_tupled, dOf "set_of" s_set_of, dOf "is_over" s_is_over, dOf "least_of" s_least_of, dOf "knock_form" s_knock_form, dOf "after" s_after, dOf "joined" s_joined, dOf "either" s_either, dOf "both" s_both, dOf "without" s_without, dOf "spots_of" s_spots_of, dOf "feelers" s_feelers, dOf "rises" s_rises, dOf "rising" s_rising, dOf "some_spots" s_some_spots, dOf "sure_out" s_sure_out, dOf "form_of_zone" s_form_of_zone, dOf "form_of_line" s_form_of_line, dOf "form_of_out" s_form_of_out, dOf "hangs_on" s_hangs_on]
def fns1 : List He.FnD := [dOf "_law_box" s_law_box, dOf "_law_take" s_law_take, dOf "_law_cells" s_law_cells, dOf "_law_of" s_law_of, dOf "_law_pick" s_law_pick, dOf "_law_lists" s_law_lists, dOf "_law_same" s_law_same, dOf "_law_hall" s_law_hall, dOf "_law_inn" s_law_inn, dOf "_law_spots" s_law_spots, dOf "_law_feelers" s_law_feelers, dOf "_law_kth" s_law_kth, dOf "_law_hours" s_law_hours, dOf "_law_line_hour" s_law_line_hour, dOf "_law_outs" s_law_outs, dOf "_law_loop" s_law_loop, dOf "_law_wires" s_law_wires, dOf "_law_zone" s_law_zone, dOf "_law_line" s_law_line, dOf "_law_abode" s_law_abode]
def fns2 : List He.FnD := [dOf "_law_begun" s_law_begun, dOf "_law_put_at" s_law_put_at, dOf "_law_meet_rows" s_law_meet_rows, dOf "_law_zone_rows" s_law_zone_rows, dOf "_law_line_rows" s_law_line_rows, dOf "_law_fire_of" s_law_fire_of, dOf "_law_fires" s_law_fires, dOf "_law_out_at" s_law_out_at, dOf "_law_but" s_law_but, dOf "_law_rise" s_law_rise, dOf "_law_hand_right" s_law_hand_right, dOf "_law_word" s_law_word, dOf "_law_right" s_law_right, dOf "law" s_law]
def fnsAll : List He.FnD := fns0 ++ fns1 ++ fns2
def fas0 : List He.Fa := [.glo "tupled", .glo "set_of", .glo "is_over", .glo "least_of", .glo "knock_form", .glo "after", .glo "joined", .glo "either", .glo "both", .glo "without", .glo "spots_of", .glo "feelers", .glo "rises", .glo "rising", .glo "some_spots", .glo "sure_out", .glo "form_of_zone", .glo "form_of_line", .glo "form_of_out", .glo "hangs_on", .glo "_law_box", .glo "_law_take", .glo "_law_cells", .glo "_law_of", .glo "_law_pick", .glo "_law_lists", .glo "_law_same", .glo "_law_hall", .glo "_law_inn", .glo "_law_spots"]
def fas1 : List He.Fa := [.glo "_law_feelers", .glo "_law_kth", .glo "_law_hours", .glo "_law_line_hour", .glo "_law_outs", .glo "_law_loop", .glo "_law_wires", .glo "_law_zone", .glo "_law_line", .glo "_law_abode", .glo "_law_begun", .glo "_law_put_at", .glo "_law_meet_rows", .glo "_law_zone_rows", .glo "_law_line_rows", .glo "_law_fire_of", .glo "_law_fires", .glo "_law_out_at", .glo "_law_but", .glo "_law_rise", .glo "_law_hand_right", .glo "_law_word", .glo "_law_right", .glo "law", .keep "tupled", .keep "set_of", .keep "is_over", .keep "least_of", .keep "knock_form", .keep "after"]
def fas2 : List He.Fa := [.keep "joined", .keep "either", .keep "both", .keep "without", .keep "spots_of", .keep "feelers", .keep "rises", .keep "rising", .keep "some_spots", .keep "sure_out", .keep "form_of_zone", .keep "form_of_line", .keep "form_of_out", .keep "hangs_on", .keep "_law_box", .keep "_law_take", .keep "_law_cells", .keep "_law_of", .keep "_law_pick", .keep "_law_lists", .keep "_law_same", .keep "_law_hall", .keep "_law_inn", .keep "_law_spots", .keep "_law_feelers", .keep "_law_kth", .keep "_law_hours", .keep "_law_line_hour", .keep "_law_outs", .keep "_law_loop"]
def fas3 : List He.Fa := [.keep "_law_wires", .keep "_law_zone", .keep "_law_line", .keep "_law_abode", .keep "_law_begun", .keep "_law_put_at", .keep "_law_meet_rows", .keep "_law_zone_rows", .keep "_law_line_rows", .keep "_law_fire_of", .keep "_law_fires", .keep "_law_out_at", .keep "_law_but", .keep "_law_rise", .keep "_law_hand_right", .keep "_law_word", .keep "_law_right", .keep "law", .int "MOST_ROWS" 400, .int "ZONES" 1, .int "LINES" 2, .int "OUTS" 3, .int "WHEN" 1, .int "ASKED" 2, .int "WAIT" 3, .int "OUT" 5, .free "len", .free "max", .free "min", .free "tuple"]
def fas4 : List He.Fa := [.free "list", .free "all", .free "any", .free "int", .free "bool", .free "str", .free "abs", .free "isinstance", .free "range", .free "enumerate", .free "zip", .free "sorted", .free "set", .free "dict"]
def fasAll : List He.Fa := fas0 ++ fas1 ++ fas2 ++ fas3 ++ fas4
abbrev lawRow : PySem.W.OpenRow := PySem.W.OpenLaw.row PySem.Challenge.rw_secondknock_k21_whole_which_feeler_an_ou
abbrev hk : PySem.W.Hook := He.hookE 3 fasAll fnsAll
def hob (s : PySem.W.SharedT) : He.Al := He.obsG 3 fasAll fnsAll (HandSHeadRun.getT s)
theorem hob_eq (s : PySem.W.SharedT) : hob s = hk.obs s.abs := He.obsG_eq (HandSHeadRun.getT_eq s)
theorem run (w : World) : HandSHeadRun.RunEq lawRow (PySem.W.view lawRow.prog [71]) hk hob 6000 looseAll w := by
  intro os
  kernel_rfl
end Sk
set_option maxHeartbeats 4000000
/-! Hd2: every def with its promise; the end (printed by gen_hd2.py). -/
namespace Sk
open PySem PySem.Spec PyProof.Rows L2 PySem.W
theorem mkDef {K : PySem.W.Frag} {h : Heap} {mg : Str → Option Value} {x : Str} {st : Stmt} {ps : List Str} (X : K.In h) (G : h.Ns mainGlobals mg) (c : He.SaysE fasAll fnsAll K) (k m : Nat) (h1 : fnsAll[k]? = some (dOf x st)) (h2 : fasAll[k]? = some (.glo x)) (h3 : fasAll[m]? = some (.keep x))
    (hb : ∀ (kV doc pm : Value) (an : Option Addr) (cdv ct : Value) (us : List Value), us.length = ps.length → bindArgs (PySem.W.fnOf x x (defArgs st) (defBody st) (defScope st) .none kV doc pm an cdv ct) ⟨us, []⟩ = pure (ps.zip us)) : ∃ fd, Def K mg x st ps (He.ga K x) fd := by
  obtain ⟨oc, od, osl, kV, doc, pm, an, cdv, ct, l, cc⟩ := c.def_ k h1
  have F : Fun K x x st (He.ga K x) (PySem.W.fnOf x x (defArgs st) (defBody st) (defScope st) .none kV doc pm an cdv ct) := ⟨⟨oc, od, kV, doc, pm, an, cdv, ct, osl, rfl, l, cc⟩, He.keep_ok (c.fact m h3)⟩
  exact ⟨_, F, He.glo_ok X G (c.fact k h2), F.kp, F.binds hb⟩
structure AllDefs (K : PySem.W.Frag) (mg : Str → Option Value) : Prop where
  d_tupled : ∃ fd, Def K mg "tupled" s_tupled ["value"] (He.ga K "tupled") fd
  d_set_of : ∃ fd, Def K mg "set_of" s_set_of ["row"] (He.ga K "set_of") fd
  d_is_over : ∃ fd, Def K mg "is_over" s_is_over ["row", "other"] (He.ga K "is_over") fd
  d_least_of : ∃ fd, Def K mg "least_of" s_least_of ["rows"] (He.ga K "least_of") fd
  d_knock_form : ∃ fd, Def K mg "knock_form" s_knock_form ["spots", "number"] (He.ga K "knock_form") fd
  d_after : ∃ fd, Def K mg "after" s_after ["form", "plus"] (He.ga K "after") fd
  d_joined : ∃ fd, Def K mg "joined" s_joined ["row", "other"] (He.ga K "joined") fd
  d_either : ∃ fd, Def K mg "either" s_either ["form", "other"] (He.ga K "either") fd
  d_both : ∃ fd, Def K mg "both" s_both ["form", "other"] (He.ga K "both") fd
  d_without : ∃ fd, Def K mg "without" s_without ["form", "spots"] (He.ga K "without") fd
  d_spots_of : ∃ fd, Def K mg "spots_of" s_spots_of ["house", "word"] (He.ga K "spots_of") fd
  d_feelers : ∃ fd, Def K mg "feelers" s_feelers ["house"] (He.ga K "feelers") fd
  d_rises : ∃ fd, Def K mg "rises" s_rises ["house"] (He.ga K "rises") fd
  d_rising : ∃ fd, Def K mg "rising" s_rising ["house"] (He.ga K "rising") fd
  d_some_spots : ∃ fd, Def K mg "some_spots" s_some_spots ["house", "spots"] (He.ga K "some_spots") fd
  d_sure_out : ∃ fd, Def K mg "sure_out" s_sure_out ["house", "out"] (He.ga K "sure_out") fd
  d_form_of_zone : ∃ fd, Def K mg "form_of_zone" s_form_of_zone ["house", "number", "lost"] (He.ga K "form_of_zone") fd
  d_form_of_line : ∃ fd, Def K mg "form_of_line" s_form_of_line ["house", "line", "lost"] (He.ga K "form_of_line") fd
  d_form_of_out : ∃ fd, Def K mg "form_of_out" s_form_of_out ["house", "lines", "out", "lost"] (He.ga K "form_of_out") fd
  d_hangs_on : ∃ fd, Def K mg "hangs_on" s_hangs_on ["house", "out", "spot"] (He.ga K "hangs_on") fd
  d__law_box : ∃ fd, Def K mg "_law_box" s_law_box ["_law_script", "_law_k"] (He.ga K "_law_box") fd
  d__law_take : ∃ fd, Def K mg "_law_take" s_law_take ["_law_tin", "_law_below_so"] (He.ga K "_law_take") fd
  d__law_cells : ∃ fd, Def K mg "_law_cells" s_law_cells ["_law_script", "_law_most_so"] (He.ga K "_law_cells") fd
  d__law_of : ∃ fd, Def K mg "_law_of" s_law_of ["_law_tin", "_law_goods_so"] (He.ga K "_law_of") fd
  d__law_pick : ∃ fd, Def K mg "_law_pick" s_law_pick ["_law_tin", "_law_goods_so", "_law_count_so"] (He.ga K "_law_pick") fd
  d__law_lists : ∃ fd, Def K mg "_law_lists" s_law_lists ["_law_matter"] (He.ga K "_law_lists") fd
  d__law_same : ∃ fd, Def K mg "_law_same" s_law_same ["_law_got", "_law_due"] (He.ga K "_law_same") fd
  d__law_hall : ∃ fd, Def K mg "_law_hall" s_law_hall [] (He.ga K "_law_hall") fd
  d__law_inn : ∃ fd, Def K mg "_law_inn" s_law_inn [] (He.ga K "_law_inn") fd
  d__law_spots : ∃ fd, Def K mg "_law_spots" s_law_spots ["_law_wires_so"] (He.ga K "_law_spots") fd
  d__law_feelers : ∃ fd, Def K mg "_law_feelers" s_law_feelers ["_law_wires_so"] (He.ga K "_law_feelers") fd
  d__law_kth : ∃ fd, Def K mg "_law_kth" s_law_kth ["_law_numbers_so", "_law_k"] (He.ga K "_law_kth") fd
  d__law_hours : ∃ fd, Def K mg "_law_hours" s_law_hours ["_law_abode_so", "_law_begun_so"] (He.ga K "_law_hours") fd
  d__law_line_hour : ∃ fd, Def K mg "_law_line_hour" s_law_line_hour ["_law_line_so", "_law_hours_so"] (He.ga K "_law_line_hour") fd
  d__law_outs : ∃ fd, Def K mg "_law_outs" s_law_outs ["_law_abode_so", "_law_hours_so"] (He.ga K "_law_outs") fd
  d__law_loop : ∃ fd, Def K mg "_law_loop" s_law_loop ["_law_tin", "_law_panel_so", "_law_feelers_so"] (He.ga K "_law_loop") fd
  d__law_wires : ∃ fd, Def K mg "_law_wires" s_law_wires ["_law_tin", "_law_panels_so"] (He.ga K "_law_wires") fd
  d__law_zone : ∃ fd, Def K mg "_law_zone" s_law_zone ["_law_tin", "_law_wires_so", "_law_panel_so", "_law_stays"] (He.ga K "_law_zone") fd
  d__law_line : ∃ fd, Def K mg "_law_line" s_law_line ["_law_tin", "_law_panels_so", "_law_zones_so", "_law_bars"] (He.ga K "_law_line") fd
  d__law_abode : ∃ fd, Def K mg "_law_abode" s_law_abode ["_law_tin", "_law_panels_so", "_law_stays", "_law_bars"] (He.ga K "_law_abode") fd
  d__law_begun : ∃ fd, Def K mg "_law_begun" s_law_begun ["_law_tin", "_law_wires_so", "_law_last_so"] (He.ga K "_law_begun") fd
  d__law_put_at : ∃ fd, Def K mg "_law_put_at" s_law_put_at ["_law_row_so", "_law_place_so", "_law_bit_so"] (He.ga K "_law_put_at") fd
  d__law_meet_rows : ∃ fd, Def K mg "_law_meet_rows" s_law_meet_rows ["_law_one_so", "_law_two_so"] (He.ga K "_law_meet_rows") fd
  d__law_zone_rows : ∃ fd, Def K mg "_law_zone_rows" s_law_zone_rows ["_law_zone_so"] (He.ga K "_law_zone_rows") fd
  d__law_line_rows : ∃ fd, Def K mg "_law_line_rows" s_law_line_rows ["_law_abode_so", "_law_line_so"] (He.ga K "_law_line_rows") fd
  d__law_fire_of : ∃ fd, Def K mg "_law_fire_of" s_law_fire_of ["_law_row_so"] (He.ga K "_law_fire_of") fd
  d__law_fires : ∃ fd, Def K mg "_law_fires" s_law_fires ["_law_abode_so", "_law_k"] (He.ga K "_law_fires") fd
  d__law_out_at : ∃ fd, Def K mg "_law_out_at" s_law_out_at ["_law_abode_so", "_law_begun_so", "_law_k"] (He.ga K "_law_out_at") fd
  d__law_but : ∃ fd, Def K mg "_law_but" s_law_but ["_law_begun_so", "_law_lost_so"] (He.ga K "_law_but") fd
  d__law_rise : ∃ fd, Def K mg "_law_rise" s_law_rise ["_law_tin", "_law_panels_so"] (He.ga K "_law_rise") fd
  d__law_hand_right : ∃ fd, Def K mg "_law_hand_right" s_law_hand_right [] (He.ga K "_law_hand_right") fd
  d__law_word : ∃ fd, Def K mg "_law_word" s_law_word ["_law_abode_so", "_law_k", "_law_spot_so"] (He.ga K "_law_word") fd
  d__law_right : ∃ fd, Def K mg "_law_right" s_law_right ["_law_tin"] (He.ga K "_law_right") fd
  d_law : ∃ fd, Def K mg "law" s_law ["_law_script"] (He.ga K "law") fd
  bt : Bt mg
  i_MOST_ROWS : ∃ t, mg "MOST_ROWS" = some (.int 400 t)
  i_ZONES : ∃ t, mg "ZONES" = some (.int 1 t)
  i_LINES : ∃ t, mg "LINES" = some (.int 2 t)
  i_OUTS : ∃ t, mg "OUTS" = some (.int 3 t)
  i_WHEN : ∃ t, mg "WHEN" = some (.int 1 t)
  i_ASKED : ∃ t, mg "ASKED" = some (.int 2 t)
  i_WAIT : ∃ t, mg "WAIT" = some (.int 3 t)
  i_OUT : ∃ t, mg "OUT" = some (.int 5 t)
theorem all_defs {K : PySem.W.Frag} {h : Heap} {mg : Str → Option Value} (X : K.In h) (G : h.Ns mainGlobals mg) (c : He.SaysE fasAll fnsAll K) : AllDefs K mg where
  d_tupled := mkDef X G c 0 54 rfl rfl rfl fun _ _ _ _ _ _ us hl => match us, hl with | [_], _ => rfl
  d_set_of := mkDef X G c 1 55 rfl rfl rfl fun _ _ _ _ _ _ us hl => match us, hl with | [_], _ => rfl
  d_is_over := mkDef X G c 2 56 rfl rfl rfl fun _ _ _ _ _ _ us hl => match us, hl with | [_, _], _ => rfl
  d_least_of := mkDef X G c 3 57 rfl rfl rfl fun _ _ _ _ _ _ us hl => match us, hl with | [_], _ => rfl
  d_knock_form := mkDef X G c 4 58 rfl rfl rfl fun _ _ _ _ _ _ us hl => match us, hl with | [_, _], _ => rfl
  d_after := mkDef X G c 5 59 rfl rfl rfl fun _ _ _ _ _ _ us hl => match us, hl with | [_, _], _ => rfl
  d_joined := mkDef X G c 6 60 rfl rfl rfl fun _ _ _ _ _ _ us hl => match us, hl with | [_, _], _ => rfl
  d_either := mkDef X G c 7 61 rfl rfl rfl fun _ _ _ _ _ _ us hl => match us, hl with | [_, _], _ => rfl
  d_both := mkDef X G c 8 62 rfl rfl rfl fun _ _ _ _ _ _ us hl => match us, hl with | [_, _], _ => rfl
  d_without := mkDef X G c 9 63 rfl rfl rfl fun _ _ _ _ _ _ us hl => match us, hl with | [_, _], _ => rfl
  d_spots_of := mkDef X G c 10 64 rfl rfl rfl fun _ _ _ _ _ _ us hl => match us, hl with | [_, _], _ => rfl
  d_feelers := mkDef X G c 11 65 rfl rfl rfl fun _ _ _ _ _ _ us hl => match us, hl with | [_], _ => rfl
  d_rises := mkDef X G c 12 66 rfl rfl rfl fun _ _ _ _ _ _ us hl => match us, hl with | [_], _ => rfl
  d_rising := mkDef X G c 13 67 rfl rfl rfl fun _ _ _ _ _ _ us hl => match us, hl with | [_], _ => rfl
  d_some_spots := mkDef X G c 14 68 rfl rfl rfl fun _ _ _ _ _ _ us hl => match us, hl with | [_, _], _ => rfl
  d_sure_out := mkDef X G c 15 69 rfl rfl rfl fun _ _ _ _ _ _ us hl => match us, hl with | [_, _], _ => rfl
  d_form_of_zone := mkDef X G c 16 70 rfl rfl rfl fun _ _ _ _ _ _ us hl => match us, hl with | [_, _, _], _ => rfl
  d_form_of_line := mkDef X G c 17 71 rfl rfl rfl fun _ _ _ _ _ _ us hl => match us, hl with | [_, _, _], _ => rfl
  d_form_of_out := mkDef X G c 18 72 rfl rfl rfl fun _ _ _ _ _ _ us hl => match us, hl with | [_, _, _, _], _ => rfl
  d_hangs_on := mkDef X G c 19 73 rfl rfl rfl fun _ _ _ _ _ _ us hl => match us, hl with | [_, _, _], _ => rfl
  d__law_box := mkDef X G c 20 74 rfl rfl rfl fun _ _ _ _ _ _ us hl => match us, hl with | [_, _], _ => rfl
  d__law_take := mkDef X G c 21 75 rfl rfl rfl fun _ _ _ _ _ _ us hl => match us, hl with | [_, _], _ => rfl
  d__law_cells := mkDef X G c 22 76 rfl rfl rfl fun _ _ _ _ _ _ us hl => match us, hl with | [_, _], _ => rfl
  d__law_of := mkDef X G c 23 77 rfl rfl rfl fun _ _ _ _ _ _ us hl => match us, hl with | [_, _], _ => rfl
  d__law_pick := mkDef X G c 24 78 rfl rfl rfl fun _ _ _ _ _ _ us hl => match us, hl with | [_, _, _], _ => rfl
  d__law_lists := mkDef X G c 25 79 rfl rfl rfl fun _ _ _ _ _ _ us hl => match us, hl with | [_], _ => rfl
  d__law_same := mkDef X G c 26 80 rfl rfl rfl fun _ _ _ _ _ _ us hl => match us, hl with | [_, _], _ => rfl
  d__law_hall := mkDef X G c 27 81 rfl rfl rfl fun _ _ _ _ _ _ us hl => match us, hl with | [], _ => rfl
  d__law_inn := mkDef X G c 28 82 rfl rfl rfl fun _ _ _ _ _ _ us hl => match us, hl with | [], _ => rfl
  d__law_spots := mkDef X G c 29 83 rfl rfl rfl fun _ _ _ _ _ _ us hl => match us, hl with | [_], _ => rfl
  d__law_feelers := mkDef X G c 30 84 rfl rfl rfl fun _ _ _ _ _ _ us hl => match us, hl with | [_], _ => rfl
  d__law_kth := mkDef X G c 31 85 rfl rfl rfl fun _ _ _ _ _ _ us hl => match us, hl with | [_, _], _ => rfl
  d__law_hours := mkDef X G c 32 86 rfl rfl rfl fun _ _ _ _ _ _ us hl => match us, hl with | [_, _], _ => rfl
  d__law_line_hour := mkDef X G c 33 87 rfl rfl rfl fun _ _ _ _ _ _ us hl => match us, hl with | [_, _], _ => rfl
  d__law_outs := mkDef X G c 34 88 rfl rfl rfl fun _ _ _ _ _ _ us hl => match us, hl with | [_, _], _ => rfl
  d__law_loop := mkDef X G c 35 89 rfl rfl rfl fun _ _ _ _ _ _ us hl => match us, hl with | [_, _, _], _ => rfl
  d__law_wires := mkDef X G c 36 90 rfl rfl rfl fun _ _ _ _ _ _ us hl => match us, hl with | [_, _], _ => rfl
  d__law_zone := mkDef X G c 37 91 rfl rfl rfl fun _ _ _ _ _ _ us hl => match us, hl with | [_, _, _, _], _ => rfl
  d__law_line := mkDef X G c 38 92 rfl rfl rfl fun _ _ _ _ _ _ us hl => match us, hl with | [_, _, _, _], _ => rfl
  d__law_abode := mkDef X G c 39 93 rfl rfl rfl fun _ _ _ _ _ _ us hl => match us, hl with | [_, _, _, _], _ => rfl
  d__law_begun := mkDef X G c 40 94 rfl rfl rfl fun _ _ _ _ _ _ us hl => match us, hl with | [_, _, _], _ => rfl
  d__law_put_at := mkDef X G c 41 95 rfl rfl rfl fun _ _ _ _ _ _ us hl => match us, hl with | [_, _, _], _ => rfl
  d__law_meet_rows := mkDef X G c 42 96 rfl rfl rfl fun _ _ _ _ _ _ us hl => match us, hl with | [_, _], _ => rfl
  d__law_zone_rows := mkDef X G c 43 97 rfl rfl rfl fun _ _ _ _ _ _ us hl => match us, hl with | [_], _ => rfl
  d__law_line_rows := mkDef X G c 44 98 rfl rfl rfl fun _ _ _ _ _ _ us hl => match us, hl with | [_, _], _ => rfl
  d__law_fire_of := mkDef X G c 45 99 rfl rfl rfl fun _ _ _ _ _ _ us hl => match us, hl with | [_], _ => rfl
  d__law_fires := mkDef X G c 46 100 rfl rfl rfl fun _ _ _ _ _ _ us hl => match us, hl with | [_, _], _ => rfl
  d__law_out_at := mkDef X G c 47 101 rfl rfl rfl fun _ _ _ _ _ _ us hl => match us, hl with | [_, _, _], _ => rfl
  d__law_but := mkDef X G c 48 102 rfl rfl rfl fun _ _ _ _ _ _ us hl => match us, hl with | [_, _], _ => rfl
  d__law_rise := mkDef X G c 49 103 rfl rfl rfl fun _ _ _ _ _ _ us hl => match us, hl with | [_, _], _ => rfl
  d__law_hand_right := mkDef X G c 50 104 rfl rfl rfl fun _ _ _ _ _ _ us hl => match us, hl with | [], _ => rfl
  d__law_word := mkDef X G c 51 105 rfl rfl rfl fun _ _ _ _ _ _ us hl => match us, hl with | [_, _, _], _ => rfl
  d__law_right := mkDef X G c 52 106 rfl rfl rfl fun _ _ _ _ _ _ us hl => match us, hl with | [_], _ => rfl
  d_law := mkDef X G c 53 107 rfl rfl rfl fun _ _ _ _ _ _ us hl => match us, hl with | [_], _ => rfl
  bt := { len := He.free_ok X G (c.fact 116 (f := .free "len") rfl), max := He.free_ok X G (c.fact 117 (f := .free "max") rfl), min := He.free_ok X G (c.fact 118 (f := .free "min") rfl), tuple := He.free_ok X G (c.fact 119 (f := .free "tuple") rfl), list := He.free_ok X G (c.fact 120 (f := .free "list") rfl), all := He.free_ok X G (c.fact 121 (f := .free "all") rfl), any := He.free_ok X G (c.fact 122 (f := .free "any") rfl), int := He.free_ok X G (c.fact 123 (f := .free "int") rfl), bool := He.free_ok X G (c.fact 124 (f := .free "bool") rfl), str := He.free_ok X G (c.fact 125 (f := .free "str") rfl), abs := He.free_ok X G (c.fact 126 (f := .free "abs") rfl), isinstance := He.free_ok X G (c.fact 127 (f := .free "isinstance") rfl), range := He.free_ok X G (c.fact 128 (f := .free "range") rfl), enumerate := He.free_ok X G (c.fact 129 (f := .free "enumerate") rfl), zip := He.free_ok X G (c.fact 130 (f := .free "zip") rfl), sorted := He.free_ok X G (c.fact 131 (f := .free "sorted") rfl), set := He.free_ok X G (c.fact 132 (f := .free "set") rfl), dict := He.free_ok X G (c.fact 133 (f := .free "dict") rfl) }
  i_MOST_ROWS := He.int_ok X G (c.fact 108 (f := .int "MOST_ROWS" 400) rfl)
  i_ZONES := He.int_ok X G (c.fact 109 (f := .int "ZONES" 1) rfl)
  i_LINES := He.int_ok X G (c.fact 110 (f := .int "LINES" 2) rfl)
  i_OUTS := He.int_ok X G (c.fact 111 (f := .int "OUTS" 3) rfl)
  i_WHEN := He.int_ok X G (c.fact 112 (f := .int "WHEN" 1) rfl)
  i_ASKED := He.int_ok X G (c.fact 113 (f := .int "ASKED" 2) rfl)
  i_WAIT := He.int_ok X G (c.fact 114 (f := .int "WAIT" 3) rfl)
  i_OUT := He.int_ok X G (c.fact 115 (f := .int "OUT" 5) rfl)
theorem law_fn {P : Program} {w : World} {K : PySem.W.Frag} {mg : Str → Option Value} (A : AllDefs K mg) : ∃ fd : FuncData, (∀ (s : Shared) (v : Value), BindsTo s fd ⟨[v], []⟩ [("_law_script", v)]) ∧ ∀ base : Heap, FnOk P w K mg base CX0 16 (He.ga K "law") fd ["_law_script"] (PLaw K) := by
  have B := A.bt
  obtain ⟨fd_tupled, D_tupled⟩ := A.d_tupled
  obtain ⟨fd_set_of, D_set_of⟩ := A.d_set_of
  obtain ⟨fd_is_over, D_is_over⟩ := A.d_is_over
  obtain ⟨fd_least_of, D_least_of⟩ := A.d_least_of
  obtain ⟨fd_knock_form, D_knock_form⟩ := A.d_knock_form
  obtain ⟨fd_after, D_after⟩ := A.d_after
  obtain ⟨fd_joined, D_joined⟩ := A.d_joined
  obtain ⟨fd_either, D_either⟩ := A.d_either
  obtain ⟨fd_both, D_both⟩ := A.d_both
  obtain ⟨fd_without, D_without⟩ := A.d_without
  obtain ⟨fd_spots_of, D_spots_of⟩ := A.d_spots_of
  obtain ⟨fd_feelers, D_feelers⟩ := A.d_feelers
  obtain ⟨fd_rises, D_rises⟩ := A.d_rises
  obtain ⟨fd_rising, D_rising⟩ := A.d_rising
  obtain ⟨fd_some_spots, D_some_spots⟩ := A.d_some_spots
  obtain ⟨fd_sure_out, D_sure_out⟩ := A.d_sure_out
  obtain ⟨fd_form_of_zone, D_form_of_zone⟩ := A.d_form_of_zone
  obtain ⟨fd_form_of_line, D_form_of_line⟩ := A.d_form_of_line
  obtain ⟨fd_form_of_out, D_form_of_out⟩ := A.d_form_of_out
  obtain ⟨fd_hangs_on, D_hangs_on⟩ := A.d_hangs_on
  obtain ⟨fd__law_box, D__law_box⟩ := A.d__law_box
  obtain ⟨fd__law_take, D__law_take⟩ := A.d__law_take
  obtain ⟨fd__law_cells, D__law_cells⟩ := A.d__law_cells
  obtain ⟨fd__law_of, D__law_of⟩ := A.d__law_of
  obtain ⟨fd__law_pick, D__law_pick⟩ := A.d__law_pick
  obtain ⟨fd__law_lists, D__law_lists⟩ := A.d__law_lists
  obtain ⟨fd__law_same, D__law_same⟩ := A.d__law_same
  obtain ⟨fd__law_hall, D__law_hall⟩ := A.d__law_hall
  obtain ⟨fd__law_inn, D__law_inn⟩ := A.d__law_inn
  obtain ⟨fd__law_spots, D__law_spots⟩ := A.d__law_spots
  obtain ⟨fd__law_feelers, D__law_feelers⟩ := A.d__law_feelers
  obtain ⟨fd__law_kth, D__law_kth⟩ := A.d__law_kth
  obtain ⟨fd__law_hours, D__law_hours⟩ := A.d__law_hours
  obtain ⟨fd__law_line_hour, D__law_line_hour⟩ := A.d__law_line_hour
  obtain ⟨fd__law_outs, D__law_outs⟩ := A.d__law_outs
  obtain ⟨fd__law_loop, D__law_loop⟩ := A.d__law_loop
  obtain ⟨fd__law_wires, D__law_wires⟩ := A.d__law_wires
  obtain ⟨fd__law_zone, D__law_zone⟩ := A.d__law_zone
  obtain ⟨fd__law_line, D__law_line⟩ := A.d__law_line
  obtain ⟨fd__law_abode, D__law_abode⟩ := A.d__law_abode
  obtain ⟨fd__law_begun, D__law_begun⟩ := A.d__law_begun
  obtain ⟨fd__law_put_at, D__law_put_at⟩ := A.d__law_put_at
  obtain ⟨fd__law_meet_rows, D__law_meet_rows⟩ := A.d__law_meet_rows
  obtain ⟨fd__law_zone_rows, D__law_zone_rows⟩ := A.d__law_zone_rows
  obtain ⟨fd__law_line_rows, D__law_line_rows⟩ := A.d__law_line_rows
  obtain ⟨fd__law_fire_of, D__law_fire_of⟩ := A.d__law_fire_of
  obtain ⟨fd__law_fires, D__law_fires⟩ := A.d__law_fires
  obtain ⟨fd__law_out_at, D__law_out_at⟩ := A.d__law_out_at
  obtain ⟨fd__law_but, D__law_but⟩ := A.d__law_but
  obtain ⟨fd__law_rise, D__law_rise⟩ := A.d__law_rise
  obtain ⟨fd__law_hand_right, D__law_hand_right⟩ := A.d__law_hand_right
  obtain ⟨fd__law_word, D__law_word⟩ := A.d__law_word
  obtain ⟨fd__law_right, D__law_right⟩ := A.d__law_right
  obtain ⟨fd_law, D_law⟩ := A.d_law
  obtain ⟨t_MOST_ROWS, m_MOST_ROWS⟩ := A.i_MOST_ROWS
  obtain ⟨t_ZONES, m_ZONES⟩ := A.i_ZONES
  obtain ⟨t_LINES, m_LINES⟩ := A.i_LINES
  obtain ⟨t_OUTS, m_OUTS⟩ := A.i_OUTS
  obtain ⟨t_WHEN, m_WHEN⟩ := A.i_WHEN
  obtain ⟨t_ASKED, m_ASKED⟩ := A.i_ASKED
  obtain ⟨t_WAIT, m_WAIT⟩ := A.i_WAIT
  obtain ⟨t_OUT, m_OUT⟩ := A.i_OUT
  refine ⟨fd_law, fun s v => ?_, fun base => ?_⟩
  · obtain ⟨oc, od, kV, doc, pm, an, cdv, ct, osl, e, l, cc⟩ := D_law.fn.ex
    subst e
    exact .of_eq rfl
  have H_tupled : Has P w K mg base 9 "tupled" ["value"] (Pu (R_tup 8)) := D_tupled.has (ok_tupled B D_tupled 8)
  have H_set_of : Has P w K mg base 1 "set_of" ["row"] (Pu R_set_of) := D_set_of.has (ok_set_of B D_set_of.fn)
  have H_is_over : Has P w K mg base 1 "is_over" ["row", "other"] (Pu R_is_over) := D_is_over.has (ok_is_over B D_is_over.fn)
  have H_least_of : Has P w K mg base 2 "least_of" ["rows"] (Pu R_least_of) := D_least_of.has (ok_least_of B D_least_of.fn H_set_of H_is_over)
  have H_knock_form : Has P w K mg base 10 "knock_form" ["spots", "number"] (Pu R_knock) := D_knock_form.has (ok_knock_form B D_knock_form.fn H_tupled H_set_of)
  have H_after : Has P w K mg base 10 "after" ["form", "plus"] (Pu R_after) := D_after.has (ok_after B D_after.fn H_tupled)
  have H_joined : Has P w K mg base 1 "joined" ["row", "other"] (Pu R_joined) := D_joined.has (ok_joined B D_joined.fn)
  have H_either : Has P w K mg base 10 "either" ["form", "other"] (Pu R_either) := D_either.has (ok_either B D_either.fn m_MOST_ROWS H_tupled H_least_of)
  have H_both : Has P w K mg base 10 "both" ["form", "other"] (Pu R_both) := D_both.has (ok_both B D_both.fn m_MOST_ROWS H_tupled H_least_of H_joined)
  have H_without : Has P w K mg base 10 "without" ["form", "spots"] (Pu R_without) := D_without.has (ok_without B D_without.fn H_tupled)
  have H_spots_of : Has P w K mg base 10 "spots_of" ["house", "word"] (Pu R_spots_of) := D_spots_of.has (ok_spots_of B D_spots_of.fn H_tupled)
  have H_feelers : Has P w K mg base 11 "feelers" ["house"] (Pu R_feelers) := D_feelers.has (ok_feelers D_feelers.fn H_spots_of)
  have H_rises : Has P w K mg base 10 "rises" ["house"] (Pu R_rises) := D_rises.has (ok_rises B D_rises.fn H_tupled)
  have H_rising : Has P w K mg base 11 "rising" ["house"] (Pu R_rising) := D_rising.has (ok_rising B D_rising.fn H_tupled H_rises)
  have H_some_spots : Has P w K mg base 12 "some_spots" ["house", "spots"] (Pu R_some) := D_some_spots.has (ok_some_spots B D_some_spots.fn H_tupled H_feelers)
  have H_sure_out : Has P w K mg base 1 "sure_out" ["house", "out"] (Pu R_sure) := D_sure_out.has (ok_sure_out B D_sure_out.fn m_OUTS)
  have H_form_of_zone : Has P w K mg base 11 "form_of_zone" ["house", "number", "lost"] (Pu R_fzone) := D_form_of_zone.has (ok_form_of_zone D_form_of_zone.fn m_ZONES H_knock_form H_without)
  have H_form_of_line : Has P w K mg base 12 "form_of_line" ["house", "line", "lost"] (Pu R_fline) := D_form_of_line.has (ok_form_of_line D_form_of_line.fn m_ASKED m_WHEN m_WAIT H_form_of_zone H_either H_both H_after)
  have H_form_of_out : Has P w K mg base 13 "form_of_out" ["house", "lines", "out", "lost"] (Pu R_fout) := D_form_of_out.has (ok_form_of_out D_form_of_out.fn m_OUT H_form_of_line H_either)
  have H_hangs_on : Has P w K mg base 14 "hangs_on" ["house", "out", "spot"] (Pu R_hangs) := D_hangs_on.has (ok_hangs_on D_hangs_on.fn m_LINES H_rising H_sure_out H_some_spots H_form_of_out H_without)
  have H__law_but : Has P w K mg base 1 "_law_but" ["_law_begun_so", "_law_lost_so"] (Pu R_but) := D__law_but.has (ok_law_but B D__law_but.fn)
  have H__law_kth : Has P w K mg base 1 "_law_kth" ["_law_numbers_so", "_law_k"] (Pu R_kth) := D__law_kth.has (ok_law_kth B D__law_kth.fn)
  have H__law_hours : Has P w K mg base 2 "_law_hours" ["_law_abode_so", "_law_begun_so"] (Pu R_hours) := D__law_hours.has (ok_law_hours B D__law_hours.fn H__law_kth)
  have H__law_line_hour : Has P w K mg base 2 "_law_line_hour" ["_law_line_so", "_law_hours_so"] (Pu R_line_hour) := D__law_line_hour.has (ok_law_line_hour B D__law_line_hour.fn H__law_kth)
  have H__law_outs : Has P w K mg base 3 "_law_outs" ["_law_abode_so", "_law_hours_so"] (Pu R_outs) := D__law_outs.has (ok_law_outs B D__law_outs.fn H__law_kth H__law_line_hour)
  have H__law_out_at : Has P w K mg base 4 "_law_out_at" ["_law_abode_so", "_law_begun_so", "_law_k"] (Pu R_out_at) := D__law_out_at.has (ok_law_out_at D__law_out_at.fn H__law_hours H__law_outs)
  have H__law_put_at : Has P w K mg base 1 "_law_put_at" ["_law_row_so", "_law_place_so", "_law_bit_so"] (Pu R_put_at) := D__law_put_at.has (ok_law_put_at D__law_put_at.fn)
  have H__law_meet_rows : Has P w K mg base 1 "_law_meet_rows" ["_law_one_so", "_law_two_so"] (Pu R_meet) := D__law_meet_rows.has (ok_law_meet_rows B D__law_meet_rows.fn)
  have H__law_zone_rows : Has P w K mg base 2 "_law_zone_rows" ["_law_zone_so"] (Pu R_zone_rows) := D__law_zone_rows.has (ok_law_zone_rows B D__law_zone_rows.fn H__law_meet_rows)
  have H__law_line_rows : Has P w K mg base 3 "_law_line_rows" ["_law_abode_so", "_law_line_so"] (Pu R_line_rows) := D__law_line_rows.has (ok_law_line_rows B D__law_line_rows.fn H__law_meet_rows H__law_zone_rows)
  have H__law_fire_of : Has P w K mg base 1 "_law_fire_of" ["_law_row_so"] (Pu R_fire) := D__law_fire_of.has (ok_law_fire_of B D__law_fire_of.fn)
  have H__law_fires : Has P w K mg base 4 "_law_fires" ["_law_abode_so", "_law_k"] (Pu R_fires) := D__law_fires.has (ok_law_fires B D__law_fires.fn H__law_fire_of H__law_line_rows)
  have H__law_spots : Has P w K mg base 1 "_law_spots" ["_law_wires_so"] (Pu R_lspots) := D__law_spots.has (ok_law_spots B D__law_spots.fn)
  have H__law_feelers : Has P w K mg base 2 "_law_feelers" ["_law_wires_so"] (Pu R_lfeelers) := D__law_feelers.has (ok_law_feelers D__law_feelers.fn H__law_spots)
  have H__law_word : Has P w K mg base 5 "_law_word" ["_law_abode_so", "_law_k", "_law_spot_so"] (Pu R_word) := D__law_word.has (ok_law_word B D__law_word.fn H__law_feelers H__law_out_at H__law_but H__law_fires)
  have H__law_take : Has P w K mg base 1 "_law_take" ["_law_tin", "_law_below_so"] (PT 1 Pre_take R_take) := D__law_take.has (ok_law_take B D__law_take.fn)
  have H__law_of : Has P w K mg base 2 "_law_of" ["_law_tin", "_law_goods_so"] (PT 1 Pre_of R_of) := D__law_of.has (ok_law_of B D__law_of.fn H__law_take)
  have H__law_pick : Has P w K mg base 2 "_law_pick" ["_law_tin", "_law_goods_so", "_law_count_so"] (PT 20 Pre_pick R_pick) := D__law_pick.has (ok_law_pick B D__law_pick.fn H__law_take)
  have H__law_loop : Has P w K mg base 3 "_law_loop" ["_law_tin", "_law_panel_so", "_law_feelers_so"] (PT 30 Pre_loop R_loop) := D__law_loop.has (ok_law_loop B D__law_loop.fn H__law_take H__law_pick)
  have H__law_wires : Has P w K mg base 4 "_law_wires" ["_law_tin", "_law_panels_so"] (PT 70 Pre_wires R_wires) := D__law_wires.has (ok_law_wires B D__law_wires.fn H__law_take H__law_loop)
  have H__law_zone : Has P w K mg base 3 "_law_zone" ["_law_tin", "_law_wires_so", "_law_panel_so", "_law_stays"] (PT 30 Pre_zone R_zone) := D__law_zone.has (ok_law_zone B D__law_zone.fn H__law_take H__law_pick H__law_feelers)
  have H__law_line : Has P w K mg base 3 "_law_line" ["_law_tin", "_law_panels_so", "_law_zones_so", "_law_bars"] (PT 30 Pre_line R_line) := D__law_line.has (ok_law_line B D__law_line.fn H__law_take H__law_pick H__law_of)
  have H__law_abode : Has P w K mg base 5 "_law_abode" ["_law_tin", "_law_panels_so", "_law_stays", "_law_bars"] (PT 300 Pre_abode R_abode) := D__law_abode.has (ok_law_abode B D__law_abode.fn H__law_take H__law_wires H__law_zone H__law_line)
  have H__law_begun : Has P w K mg base 3 "_law_begun" ["_law_tin", "_law_wires_so", "_law_last_so"] (PT 60 Pre_begun R_begun) := D__law_begun.has (ok_law_begun B D__law_begun.fn H__law_take H__law_pick H__law_feelers)
  have H__law_rise : Has P w K mg base 6 "_law_rise" ["_law_tin", "_law_panels_so"] (PT 500 Pre_rise R_rise) := D__law_rise.has (ok_law_rise B D__law_rise.fn H__law_take H__law_pick H__law_feelers H__law_abode H__law_line H__law_put_at)
  have H__law_lists : Has P w K mg base 6 "_law_lists" ["_law_matter"] (Pu (R_lists 5)) := D__law_lists.has (ok_law_lists B D__law_lists 5)
  have H__law_same : Has P w K mg base 2 "_law_same" ["_law_got", "_law_due"] (Pu R_same1) := D__law_same.has (ok_law_same1 B D__law_same)
  have H__law_hall : Has P w K mg base 1 "_law_hall" [] (Pu R_hall) := D__law_hall.has (ok_law_hall D__law_hall.fn)
  have H__law_inn : Has P w K mg base 2 "_law_inn" [] (Pu R_inn) := D__law_inn.has (ok_law_inn D__law_inn.fn H__law_hall)
  have H__law_hand_right : Has P w K mg base 15 "_law_hand_right" [] (Pu R_hand) := D__law_hand_right.has (ok_law_hand_right D__law_hand_right.fn H__law_inn H__law_put_at H_hangs_on H__law_same)
  have H__law_right : Has P w K mg base 15 "_law_right" ["_law_tin"] (PT 1000 Pre_right R_right) := D__law_right.has (ok_law_right B D__law_right.fn H__law_take H__law_rise H__law_feelers H__law_word H_hangs_on H__law_lists H__law_same H__law_begun H__law_out_at H__law_but)
  have H__law_box : Has P w K mg base 1 "_law_box" ["_law_script", "_law_k"] (Pu R_box) := D__law_box.has (ok_law_box B D__law_box.fn)
  have H__law_cells : Has P w K mg base 1 "_law_cells" ["_law_script", "_law_most_so"] (PCells K) := D__law_cells.has (ok_law_cells B D__law_cells.fn)
  exact ok_law D_law.fn H__law_hand_right H__law_right H__law_box H__law_cells
end Sk
open PySem PySem.W PySem.Calls PyProof.Rows
set_option maxHeartbeats 0 in
theorem PySem.Challenge.cw_secondknock_k21_whole_which_feeler_an_ou_holds : PySem.Challenge.rw_secondknock_k21_whole_which_feeler_an_ou.Holds := by
  w_on; o_law
  refine HandSHeadRun.head_any (r := OpenLaw.row PySem.Challenge.rw_secondknock_k21_whole_which_feeler_an_ou) (q := view (OpenLaw.row PySem.Challenge.rw_secondknock_k21_whole_which_feeler_an_ou).prog [71]) (H := Sk.hk) (ob := Sk.hob) (M := 6000) (loose := Sk.looseAll) (d := HandSHeadRun.topDef (OpenLaw.row PySem.Challenge.rw_secondknock_k21_whole_which_feeler_an_ou).prog 71) (kwd := []) Sk.hob_eq
    (by kernel_rfl) (fun s => by kernel_rfl) Sk.run (by kernel_rfl) (by kernel_rfl) (by kernel_rfl) (by rfl) (by first | assumption | decide +kernel) (by decide +kernel) ⟨rfl, rfl, rfl, rfl, rfl, by decide +kernel⟩ ?hw ?hc
  case hw => w_witness2
  case hc =>
    refine L2.walk_ofE (l := PySem.Challenge.rw_secondknock_k21_whole_which_feeler_an_ou) (n := 63) (k := 16) (x := "_law_script") (CX := L2.CX0) rfl (by decide) (by kernel_rfl) ⟨rfl, by decide, by decide⟩ ?F (fun _ _ _ _ z => z)
    intro w mg fa h Y G hmg0
    obtain ⟨K, KX, c⟩ := Y
    have hmg : mg ("law" : PySem.Str) = some (.ref fa) := by
      have e : (HandSHeadRun.topDef (OpenLaw.row PySem.Challenge.rw_secondknock_k21_whole_which_feeler_an_ou).prog 71).name = ("law" : PySem.Str) := by kernel_rfl
      rw [← e]
      exact hmg0
    have A := Sk.all_defs KX G c
    obtain ⟨fdl, Dl⟩ := A.d_law
    have e : fa = He.ga K "law" := by
      have z := hmg.symm.trans Dl.mg
      cases z
      rfl
    subst e
    obtain ⟨fd, hb, hF⟩ := Sk.law_fn (P := (PySem.Challenge.rw_secondknock_k21_whole_which_feeler_an_ou).prog) (w := w) A
    exact ⟨K, fd, Sk.PLaw K, KX, hb, fun H a ns hl _ hS => ⟨a, ns, rfl, hS, hl, fun _ => rfl⟩, fun base _ _ => hF base⟩
