import PyProof.Rows.All
import Wide.All
import OpenK.AllK
import Wide.FinOn
import HandS.ForMost
import HandS.Walk
import HandS.Style
import HandS.TupAny
import HandS.IsInst
import HandS.Gcd
import HandS.Deep
import HandS.Flow
import HandS.Wide
import HandS.WordsExc
import HandS.Zip
import KE.LtData
import PyProof.MinMaxWalk
import HandS.Replace
import KE.GoesZip
import KE.GoesEnum
import KE.KDictZip
import KE.KDictList
import HandS.Zip0
import KE.DataMinMax
import KE.SortData
import HandS.TupSets
import KE.KeyNested
import HandS.ExcOwn
import PyProof.ListTruth
import KE.KExcSuper
import KE.KSuper
import HandS.ExcInit
import KE.KIsAll
import HandS.Codes
import KE.RegKSuper
import PySem.Challenge.RW_middledots_k43_whole_bent_texts
-- Md0
set_option Elab.async false
set_option linter.all false
set_option maxRecDepth 100000
set_option maxHeartbeats 2000000
/-! The simulation layer: defs of the text as functions upon plain data. A heap G of what never changes, within the heap H of all; one list (the source of draws, at T) that changes. -/
namespace Md
open PySem PySem.Spec PyProof.Rows L2

set_option autoImplicit false

abbrev Dt := PyData
abbrev Tn := Int × Int × Int
abbrev Ev := List (Option Dt)
abbrev mE := Ev → Tn → Option (Dt × Tn)
abbrev mA := Ev → Tn → Option (List Dt × Tn)
abbrev mB := Ev → Tn → Option (Bool × Tn)

/-! ### data in a heap -/
mutual
inductive Dq (G : Hp) : V → Dt → Prop
  | non : Dq G .non .none
  | bl (b : Bool) : Dq G (.bl b) (.bool b)
  | int (i : Int) : Dq G (.int i) (.int i)
  | str (x : Str) : Dq G (.str x) (.str x)
  | lst {a : Addr} {xs : List V} {ds : List Dt} : G a = some (.lst xs) → DqAll G xs ds → Dq G (.ref a) (.list ds)
  | tup {a : Addr} {xs : List V} {ds : List Dt} : G a = some (.tup xs) → DqAll G xs ds → Dq G (.ref a) (.tuple ds)
inductive DqAll (G : Hp) : List V → List Dt → Prop
  | nil : DqAll G [] []
  | cons {v : V} {vs : List V} {d : Dt} {ds : List Dt} : Dq G v d → DqAll G vs ds → DqAll G (v :: vs) (d :: ds)
end
section
variable {G G' : Hp}
mutual
theorem Dq.mono (s : Same G G') : ∀ (d : Dt) (v : V), Dq G v d → Dq G' v d
  | .none, _, h => by cases h; exact .non
  | .bool _, _, h => by cases h; exact .bl _
  | .int _, _, h => by cases h; exact .int _
  | .str _, _, h => by cases h; exact .str _
  | .list ds, _, h => by
    cases h with
    | lst e a => exact .lst (s _ _ e) (DqAll.mono s ds _ a)
  | .tuple ds, _, h => by
    cases h with
    | tup e a => exact .tup (s _ _ e) (DqAll.mono s ds _ a)
  | .dict _, _, h => by cases h
theorem DqAll.mono (s : Same G G') : ∀ (ds : List Dt) (vs : List V), DqAll G vs ds → DqAll G' vs ds
  | [], _, h => by cases h; exact .nil
  | d :: ds, _, h => by
    cases h with
    | cons h1 h2 => exact .cons (Dq.mono s d _ h1) (DqAll.mono s ds _ h2)
end
mutual
theorem Dq.dp (K : PySem.W.Frag) : ∀ (d : Dt) (v : V), Dq G v d → Dp K G v d
  | .none, _, h => by cases h; exact .non
  | .bool _, _, h => by cases h; exact .bl _
  | .int _, _, h => by cases h; exact .int _
  | .str _, _, h => by cases h; exact .str _
  | .list ds, _, h => by
    cases h with
    | lst e a => exact .lst (SqL.of e) (DqAll.dp K ds _ a)
  | .tuple ds, _, h => by
    cases h with
    | tup e a => exact .tup (SqT.of e) (DqAll.dp K ds _ a)
  | .dict _, _, h => by cases h
theorem DqAll.dp (K : PySem.W.Frag) : ∀ (ds : List Dt) (vs : List V), DqAll G vs ds → DpAll K G vs ds
  | [], _, h => by cases h; exact .nil
  | d :: ds, _, h => by
    cases h with
    | cons h1 h2 => exact .cons (Dq.dp K d _ h1) (DqAll.dp K ds _ h2)
end
theorem DqAll.length : ∀ {vs : List V} {ds : List Dt}, DqAll G vs ds → vs.length = ds.length
  | _, _, .nil => rfl
  | _, _, .cons _ t => by rw [List.length_cons, List.length_cons, DqAll.length t]
theorem DqAll.get : ∀ {vs : List V} {ds : List Dt} {i : Nat} {d : Dt}, DqAll G vs ds → ds[i]? = some d → ∃ v, vs[i]? = some v ∧ Dq G v d
  | _, _, _, _, .nil, e => by simp at e
  | _, _, 0, _, .cons h _, e => by
    simp at e
    subst e
    exact ⟨_, rfl, h⟩
  | _, _, i + 1, d, .cons _ t, e => by
    obtain ⟨v, h1, h2⟩ := DqAll.get (i := i) (d := d) t (by simpa using e)
    exact ⟨v, by simpa using h1, h2⟩
theorem DqAll.got : ∀ {vs : List V} {ds : List Dt} {i : Nat} {v : V}, DqAll G vs ds → vs[i]? = some v → ∃ d, ds[i]? = some d ∧ Dq G v d
  | _, _, _, _, .nil, e => by simp at e
  | _, _, 0, _, .cons h _, e => by
    simp at e
    subst e
    exact ⟨_, rfl, h⟩
  | _, _, i + 1, d, .cons _ t, e => by
    obtain ⟨v, h1, h2⟩ := DqAll.got (i := i) (v := d) t (by simpa using e)
    exact ⟨v, by simpa using h1, h2⟩
theorem DqAll.append : ∀ {xs ys : List V} {ds es : List Dt}, DqAll G xs ds → DqAll G ys es → DqAll G (xs ++ ys) (ds ++ es)
  | _, _, _, _, .nil, h => h
  | _, _, _, _, .cons h t, h' => .cons h (DqAll.append t h')
theorem DqAll.take : ∀ {xs : List V} {ds : List Dt} (n : Nat), DqAll G xs ds → DqAll G (xs.take n) (ds.take n)
  | _, _, 0, _ => .nil
  | _, _, _ + 1, .nil => .nil
  | _, _, n + 1, .cons h t => .cons h (DqAll.take n t)
theorem DqAll.drop : ∀ {xs : List V} {ds : List Dt} (n : Nat), DqAll G xs ds → DqAll G (xs.drop n) (ds.drop n)
  | _, _, 0, h => h
  | _, _, _ + 1, .nil => .nil
  | _, _, n + 1, .cons _ t => DqAll.drop n t
theorem DqAll.reverse : ∀ {xs : List V} {ds : List Dt}, DqAll G xs ds → DqAll G xs.reverse ds.reverse
  | _, _, .nil => .nil
  | _, _, .cons h t => by
    rw [List.reverse_cons, List.reverse_cons]
    exact DqAll.append (DqAll.reverse t) (.cons h .nil)
end

/- a value's data: or the source of draws, told as an empty dict -/
/-- where the source of draws lies; where lists of the running def's own lie -/
structure Tm where
  tin : Option Addr
  own : Nat → Option Addr
/-- the k-th list of one's own, as data -/
def opq (k : Nat) : Dt := .dict [(.int k, .none)]
def Dv (T : Tm) (G : Hp) (v : V) (d : Dt) : Prop := Dq G v d ∨ (d = .dict [] ∧ ∃ p, T.tin = some p ∧ v = .ref p) ∨ ∃ k p, d = opq k ∧ T.own k = some p ∧ v = .ref p
abbrev DvAll (T : Tm) (G : Hp) : List V → List Dt → Prop := Paired (Dv T G)
structure Wd (T : Tm) (s : Tn) (G H : Hp) : Prop where
  sub : Same G H
  tin : ∀ p, T.tin = some p → H p = some (.lst [.int s.1, .int s.2.1, .int s.2.2]) ∧ G p = none
structure Ext (T : Tm) (G H G' H' : Hp) : Prop where
  same : ∀ b o, H b = some o → T.tin ≠ some b → H' b = some o
  up : Same G G'
  fresh : ∀ b o, H b = some o → G b = none → G' b = none
section
variable {T : Tm} {G H G1 H1 G2 H2 : Hp} {s s1 : Tn} {v : V} {d : Dt}
theorem Dv.mono (h : Dv T G v d) (x : Same G G1) : Dv T G1 v d := h.imp (Dq.mono x d v) id
theorem DvAll.mono : ∀ {vs : List V} {ds : List Dt}, DvAll T G vs ds → Same G G1 → DvAll T G1 vs ds
  | _, _, .nil, _ => .nil
  | _, _, .cons h t, x => .cons (h.mono x) (DvAll.mono t x)
theorem Ext.refl : Ext T G H G H := ⟨fun _ _ h _ => h, Same.refl _, fun _ _ _ h => h⟩
theorem Ext.trans (a : Ext T G H G1 H1) (w : Wd T s1 G1 H1) (b : Ext T G1 H1 G2 H2) : Ext T G H G2 H2 := by
  refine ⟨fun c o h n => b.same c o (a.same c o h n) n, a.up.trans b.up, fun c o h n => ?_⟩
  have n1 := a.fresh c o h n
  by_cases e : T.tin = some c
  · exact b.fresh c _ (w.tin c e).1 n1
  · exact b.fresh c o (a.same c o h e) n1
theorem Wd.free (w : Wd T s G H) {p : Addr} (h : H p = none) : G p = none := w.sub.free h
theorem Wd.tne (w : Wd T s G H) {p : Addr} (h : H p = none) : T.tin ≠ some p := fun e => by
  have q := (w.tin p e).1
  rw [h] at q
  cases q
theorem same_upd {G : Hp} {p : Addr} (o : HO) (h : G p = none) : Same G (upd G p o) := fun b u e => by
  rw [upd_ne (ne_of_none e h)]
  exact e
theorem Wd.alloc (w : Wd T s G H) {p : Addr} (o : HO) (h : H p = none) : Wd T s (upd G p o) (upd H p o) := by
  refine ⟨fun b u e => ?_, fun q e => ?_⟩
  · by_cases c : b = p
    · subst c
      rw [upd_same] at e ⊢
      exact e
    · rw [upd_ne c] at e ⊢
      exact w.sub b u e
  · have n : q ≠ p := fun z => w.tne h (z ▸ e)
    rw [upd_ne n, upd_ne n]
    exact w.tin q e
theorem Ext.alloc (w : Wd T s G H) {p : Addr} (o : HO) (h : H p = none) : Ext T G H (upd G p o) (upd H p o) := by
  refine ⟨fun b u e _ => ?_, same_upd o (w.free h), fun b u e n => ?_⟩
  · rw [upd_ne (ne_of_none e h)]
    exact e
  · rw [upd_ne (ne_of_none e h)]
    exact n
theorem Dv.dq (h : Dv T G v d) (n : ∀ x, d ≠ .dict x) : Dq G v d := h.elim id fun z => z.elim (fun z => absurd z.1 (n _)) fun ⟨_, _, z, _⟩ => absurd z (n _)
theorem Dv.int_ {i : Int} (h : Dv T G v (.int i)) : v = .int i := by
  cases h.dq (fun _ z => nomatch z)
  rfl
theorem Dv.str_ {x : Str} (h : Dv T G v (.str x)) : v = .str x := by
  cases h.dq (fun _ z => nomatch z)
  rfl
theorem Dv.bl_ {b : Bool} (h : Dv T G v (.bool b)) : v = .bl b := by
  cases h.dq (fun _ z => nomatch z)
  rfl
theorem Dv.non_ (h : Dv T G v .none) : v = .non := by
  cases h.dq (fun _ z => nomatch z)
  rfl
theorem Dv.lst_ {ds : List Dt} (h : Dv T G v (.list ds)) : ∃ a xs, v = .ref a ∧ G a = some (.lst xs) ∧ DqAll G xs ds := by
  cases h.dq (fun _ z => nomatch z) with
  | lst e a => exact ⟨_, _, rfl, e, a⟩
theorem Dv.tup_ {ds : List Dt} (h : Dv T G v (.tuple ds)) : ∃ a xs, v = .ref a ∧ G a = some (.tup xs) ∧ DqAll G xs ds := by
  cases h.dq (fun _ z => nomatch z) with
  | tup e a => exact ⟨_, _, rfl, e, a⟩
theorem Dv.tin_ (h : Dv T G v (.dict [])) : ∃ p, T.tin = some p ∧ v = .ref p := by
  rcases h with h | h
  · cases h
  · rcases h with h | ⟨k, p, e, _⟩
    · exact h.2
    · unfold opq at e
      cases e
theorem DvAll.dq : ∀ {vs : List V} {ds : List Dt}, DvAll T G vs ds → (∀ d ∈ ds, ∀ x, d ≠ .dict x) → DqAll G vs ds
  | _, _, .nil, _ => .nil
  | _, _, .cons h t, n => .cons (h.dq (n _ List.mem_cons_self)) (DvAll.dq t fun d hd => n d (List.mem_cons_of_mem _ hd))
theorem DqAll.dv : ∀ {vs : List V} {ds : List Dt}, DqAll G vs ds → DvAll T G vs ds
  | _, _, .nil => .nil
  | _, _, .cons h t => .cons (.inl h) (DqAll.dv t)
end

/-! ### the readings -/
/-- what follows with a value of data d -/
def Th (T : Tm) (s' : Tn) (G H : Hp) (d : Dt) (Q : VK) : Prop := ∀ G' H' v, Ext T G H G' H' → Wd T s' G' H' → Dv T G' v d → Q v H'
structure EnvOk (T : Tm) (G : Hp) (σ : L2.St) (env : Ev) : Prop where
  len : env.length = σ.length
  at_ : ∀ (i : Nat) (d : Dt), env[i]? = some (some d) → ∃ v, σ[i]? = some (some v) ∧ Dv T G v d
theorem EnvOk.mono {T : Tm} {G G1 : Hp} {σ : L2.St} {env : Ev} (e : EnvOk T G σ env) (x : Same G G1) : EnvOk T G1 σ env := ⟨e.len, fun i d h => by
  obtain ⟨v, h1, h2⟩ := e.at_ i d h
  exact ⟨v, h1, h2.mono x⟩⟩
theorem EnvOk.set {T : Tm} {G : Hp} {σ : L2.St} {env : Ev} (e : EnvOk T G σ env) (i : Nat) {v : V} {d : Dt} (h : Dv T G v d) : EnvOk T G (σ.set i (some v)) (env.set i (some d)) := ⟨by rw [List.length_set, List.length_set]; exact e.len, fun j d' q => by
  have hl := e.len
  by_cases c : i = j
  · subst c
    by_cases l : i < env.length
    · rw [List.getElem?_set_self l] at q
      cases q
      exact ⟨v, List.getElem?_set_self (by omega), h⟩
    · rw [List.getElem?_eq_none (by rw [List.length_set]; omega)] at q
      cases q
  · rw [List.getElem?_set_ne c] at q ⊢
    exact e.at_ j d' q⟩
def SE (m : mE) : TE := fun σ H Q => ∃ T G env s d s', Wd T s G H ∧ EnvOk T G σ env ∧ m env s = some (d, s') ∧ Th T s' G H d Q
def SA (m : mA) : TA := fun σ H Q => ∃ T G env s ds s', Wd T s G H ∧ EnvOk T G σ env ∧ m env s = some (ds, s') ∧ ∀ G' H' vs, Ext T G H G' H' → Wd T s' G' H' → DvAll T G' vs ds → Q vs H'
def SB (m : mB) : TT := fun σ H Q => ∃ T G env s b s', Wd T s G H ∧ EnvOk T G σ env ∧ m env s = some (b, s') ∧ ∀ G' H', Ext T G H G' H' → Wd T s' G' H' → Q b H'
inductive Fl where
  | nx (e : Ev) | rt (d : Dt) | bk (e : Ev) | ct (e : Ev)
abbrev mS := Ev → Tn → Option (Fl × Tn)
def FlOk (T : Tm) (G H : Hp) (n : Nat) (E : Ends) : Fl → Prop
  | .nx e => ∀ σ, EnvOk T G σ e → σ.length = n → E.nx σ H
  | .rt d => ∀ v, Dv T G v d → E.rt v H
  | .bk e => ∀ σ, EnvOk T G σ e → σ.length = n → E.bk σ H
  | .ct e => ∀ σ, EnvOk T G σ e → σ.length = n → E.ct σ H
def SS (m : mS) : TS := fun E σ H => ∃ T G env s f s', Wd T s G H ∧ EnvOk T G σ env ∧ m env s = some (f, s') ∧ ∀ G' H', Ext T G H G' H' → Wd T s' G' H' → FlOk T G' H' σ.length E f

section
variable {T : Tm} {G H : Hp} {s s1 : Tn} {σ : L2.St} {env : Ev}
theorem SE.seq {m : mE} {d : Dt} {R : VK} (w : Wd T s G H) (e : EnvOk T G σ env) (hm : m env s = some (d, s1)) (k : ∀ G1 H1 v, Ext T G H G1 H1 → Wd T s1 G1 H1 → EnvOk T G1 σ env → Dv T G1 v d → R v H1) : SE m σ H R :=
  ⟨T, G, env, s, d, s1, w, e, hm, fun G1 H1 v x w1 dv => k G1 H1 v x w1 (e.mono x.up) dv⟩
theorem SA.seq {m : mA} {d : List Dt} {R : List V → Hp → Prop} (w : Wd T s G H) (e : EnvOk T G σ env) (hm : m env s = some (d, s1)) (k : ∀ G1 H1 v, Ext T G H G1 H1 → Wd T s1 G1 H1 → EnvOk T G1 σ env → DvAll T G1 v d → R v H1) : SA m σ H R :=
  ⟨T, G, env, s, d, s1, w, e, hm, fun G1 H1 v x w1 dv => k G1 H1 v x w1 (e.mono x.up) dv⟩
theorem SB.seq {m : mB} {d : Bool} {R : Bool → Hp → Prop} (w : Wd T s G H) (e : EnvOk T G σ env) (hm : m env s = some (d, s1)) (k : ∀ G1 H1, Ext T G H G1 H1 → Wd T s1 G1 H1 → EnvOk T G1 σ env → R d H1) : SB m σ H R :=
  ⟨T, G, env, s, d, s1, w, e, hm, fun G1 H1 x w1 => k G1 H1 x w1 (e.mono x.up)⟩
end
section
variable {X : Cx} {e : Expr}
theorem sim_pe {t t' : TE} (h : PE X e t) (k : ∀ σ H Q, t' σ H Q → t σ H Q) : PE X e t' := ⟨fun pins s σ H Q I q => h.run pins s σ H Q I (k _ _ _ q)⟩
theorem sim_pt {t t' : TT} (h : PT X e t) (k : ∀ σ H Q, t' σ H Q → t σ H Q) : PT X e t' := ⟨fun pins s σ H Q I q => h.run pins s σ H Q I (k _ _ _ q)⟩
theorem sim_pw {t t' : TT} (h : PW X e t) (k : ∀ σ H Q, t' σ H Q → t σ H Q) : PW X e t' := ⟨fun wh pins s σ H Q I q => h.run wh pins s σ H Q I (k _ _ _ q)⟩
theorem sim_pa {es : List Expr} {t t' : TA} (h : PA X es t) (k : ∀ σ H Q, t' σ H Q → t σ H Q) : PA X es t' := ⟨fun pos pins s σ H Q I q => h.run pos pins s σ H Q I (k _ _ _ q)⟩
theorem sim_ps {st : Stmt} {t t' : TS} (h : PS X st t) (k : ∀ D σ H, t' D σ H → t D σ H) : PS X st t' := ⟨fun pins s σ H D I q => h.run pins s σ H D I (k _ _ _ q)⟩
theorem sim_pss {st : List Stmt} {t t' : TS} (h : PSs X st t) (k : ∀ D σ H, t' D σ H → t D σ H) : PSs X st t' := ⟨fun pins s σ H D I q => h.run pins s σ H D I (k _ _ _ q)⟩
theorem sim_pg {t t' : TG} (h : PG X e t) (k : ∀ v σ H Q, t' v σ H Q → t v σ H Q) : PG X e t' := ⟨fun pins s σ H v u Q I r q => h.run pins s σ H v u Q I r (k _ _ _ _ q)⟩
end

/-! ### names, constants -/
def mVar (i : Nat) : mE := fun env s => match env[i]? with
  | some (some d) => some (d, s)
  | _ => none
def mC (d : Dt) : mE := fun _ s => some (d, s)
section
variable {X : Cx} {pos : Pos}
theorem mVar_inv {i : Nat} {env : Ev} {s s' : Tn} {d : Dt} (h : mVar i env s = some (d, s')) : env[i]? = some (some d) ∧ s' = s := by
  unfold mVar at h
  split at h
  · rename_i d' e
    cases h
    exact ⟨e, rfl⟩
  · cases h
theorem se_var {x : Str} {i : Nat} (h : PE X (.Name x pos) (tVar i)) : PE X (.Name x pos) (SE (mVar i)) := sim_pe h fun σ H Q h => by
  obtain ⟨T, G, env, s, d, s', w, e, hm, k⟩ := h
  obtain ⟨h1, rfl⟩ := mVar_inv hm
  obtain ⟨v, h2, h3⟩ := e.at_ i d h1
  exact ⟨v, h2, k G H v .refl w h3⟩
theorem sv (i : Nat) {x : Str} {pos : Pos} (hN : X.N[i]? = some x := by rfl) (hv : Vis X.env.scope x := by first | exact Or.inl rfl | exact Or.inr (Or.inl rfl) | exact Or.inr (Or.inr rfl)) (hd : (x == ("__debug__" : Str)) = false := by decide)
    (hcd : (x == ("__classdict__" : Str)) = false := by decide) : PE X (.Name x pos) (SE (mVar i)) := se_var (pe_var hN hv hd hcd)
theorem se_c {e : Expr} {v : V} {d : Dt} (h : PE X e (tC v)) (hd : ∀ G, Dq G v d) : PE X e (SE (mC d)) := sim_pe h fun σ H Q h => by
  obtain ⟨T, G, env, s, d', s', w, e, hm, k⟩ := h
  cases hm
  exact k G H v .refl w (.inl (hd G))
theorem se_int {i j pos} : PE X (.Constant (.int i) j pos) (SE (mC (.int i))) := se_c pe_int fun _ => .int i
theorem se_str {i j pos} : PE X (.Constant (.str i) j pos) (SE (mC (.str i))) := se_c pe_str fun _ => .str i
theorem se_bl {i j pos} : PE X (.Constant (.bool i) j pos) (SE (mC (.bool i))) := se_c pe_bl fun _ => .bl i
theorem se_non {j pos} : PE X (.Constant .none j pos) (SE (mC .none)) := se_c pe_non fun _ => .non
theorem se_globS {x z : Str} {t : Tok} (hm : X.mg x = some (.str z t)) (hg : Gl X x := by rfl) (hd : (x == ("__debug__" : Str)) = false := by decide) : PE X (.Name x pos) (SE (mC (.str z))) := se_c (v := .str z) (pe_glob hg hm ⟨t, rfl⟩ hd) fun _ => .str z
theorem se_globI {x : Str} {z : Int} {t : Tok} (hm : X.mg x = some (.int z t)) (hg : Gl X x := by rfl) (hd : (x == ("__debug__" : Str)) = false := by decide) : PE X (.Name x pos) (SE (mC (.int z))) := se_c (v := .int z) (pe_glob hg hm ⟨t, rfl⟩ hd) fun _ => .int z
end

/-! ### operators -/
def m2 (f : Dt → Dt → Option Dt) (a b : mE) : mE := fun env s => match a env s with
  | none => none
  | some (d, s1) => match b env s1 with
    | none => none
    | some (e, s2) => match f d e with
      | none => none
      | some z => some (z, s2)
theorem m2_inv {f : Dt → Dt → Option Dt} {a b : mE} {env : Ev} {s s2 : Tn} {z : Dt} (h : m2 f a b env s = some (z, s2)) : ∃ d s1 e, a env s = some (d, s1) ∧ b env s1 = some (e, s2) ∧ f d e = some z := by
  unfold m2 at h
  split at h
  · cases h
  · rename_i d s1 e1
    split at h
    · cases h
    · rename_i e s3 e2
      split at h
      · cases h
      · rename_i z' e3
        cases h
        exact ⟨d, s1, e, e1, e2, e3⟩
def m1 (f : Dt → Option Dt) (a : mE) : mE := fun env s => match a env s with
  | none => none
  | some (d, s1) => match f d with
    | none => none
    | some z => some (z, s1)
theorem m1_inv {f : Dt → Option Dt} {a : mE} {env : Ev} {s s1 : Tn} {z : Dt} (h : m1 f a env s = some (z, s1)) : ∃ d, a env s = some (d, s1) ∧ f d = some z := by
  unfold m1 at h
  split at h
  · cases h
  · rename_i d s2 e1
    split at h
    · cases h
    · rename_i z' e3
      cases h
      exact ⟨d, e1, e3⟩
/-- two values by their data -/
def r2 (f : Dt → Dt → Option Dt) : R2 := fun x y H Q => ∃ T G d e z s, Wd T s G H ∧ Dv T G x d ∧ Dv T G y e ∧ f d e = some z ∧ Th T s G H z Q
def r1 (f : Dt → Option Dt) : V → Hp → VK → Prop := fun x H Q => ∃ T G d z s, Wd T s G H ∧ Dv T G x d ∧ f d = some z ∧ Th T s G H z Q
section
variable {X : Cx} {a b : Expr} {ma mb : mE} {pos : Pos} {f : Dt → Dt → Option Dt}
theorem r2_of {σ : L2.St} {H : Hp} {Q : VK} (h : SE (m2 f ma mb) σ H Q) : SE ma σ H fun x H1 => SE mb σ H1 fun y H2 => r2 f x y H2 Q := by
  obtain ⟨T, G, env, s, z, s2, w, e, hm, k⟩ := h
  obtain ⟨d, s1, e', h1, h2, h3⟩ := m2_inv hm
  exact SE.seq w e h1 fun G1 H1 x x1 w1 e1 dv1 => SE.seq w1 e1 h2 fun G2 H2 y x2 w2 e2 dv2 =>
    ⟨T, G2, d, e', z, s2, w2, dv1.mono x2.up, dv2, h3, fun G3 H3 v x3 w3 dv3 => k G3 H3 v ((x1.trans w1 x2).trans w2 x3) w3 dv3⟩
theorem se_op {op : Operator} (ho : OpR X (binaryOp op) (r2 f)) (ha : PE X a (SE ma)) (hb : PE X b (SE mb)) : PE X (.BinOp a op b pos) (SE (m2 f ma mb)) := sim_pe (pe_op ho ha hb) fun _ _ _ h => r2_of h
theorem se_cmp {op : CmpOp} (ho : OpR X (compareOp op) (r2 f)) (ha : PE X a (SE ma)) (hb : PE X b (SE mb)) (hm : behindInMarks op b = false := by first | exact nomark _ | rfl) : PE X (.Compare a [op] [b] pos) (SE (m2 f ma mb)) := sim_pe (pe_cmpR ho ha hb hm) fun _ _ _ h => r2_of h
theorem se_ix (hr : IxR X (r2 f)) (ha : PE X a (SE ma)) (hb : PE X b (SE mb)) (hs : PlainIx b := by exact fun _ _ => rfl) : PE X (.Subscript a b pos) (SE (m2 f ma mb)) := sim_pe (pe_ix hr ha hb hs) fun _ _ _ h => r2_of h
theorem r1_of {f : Dt → Option Dt} {σ : L2.St} {H : Hp} {Q : VK} (h : SE (m1 f ma) σ H Q) : SE ma σ H fun x H1 => r1 f x H1 Q := by
  obtain ⟨T, G, env, s, z, s2, w, e, hm, k⟩ := h
  obtain ⟨d, h1, h3⟩ := m1_inv hm
  exact SE.seq w e h1 fun G1 H1 x x1 w1 e1 dv1 => ⟨T, G1, d, z, s2, w1, dv1, h3, fun G3 H3 v x3 w3 dv3 => k G3 H3 v (x1.trans w1 x3) w3 dv3⟩
theorem se_un {f : Dt → Option Dt} {op : UnaryOp} (ho : UnR X (unaryOp op) (r1 f)) (ha : PE X a (SE ma)) : PE X (.UnaryOp op a pos) (SE (m1 f ma)) := sim_pe (pe_un ho ha) fun _ _ _ h => r1_of h
end

/-! ### tests, and, or, not -/
def mT (a : mE) : mB := fun env s => match a env s with
  | some (.bool b, s1) => some (b, s1)
  | _ => none
theorem mT_inv {a : mE} {env : Ev} {s s1 : Tn} {b : Bool} (h : mT a env s = some (b, s1)) : a env s = some (.bool b, s1) := by
  unfold mT at h
  split at h
  · rename_i b' s2 e
    cases h
    exact e
  · cases h
def mBand (a b : mB) : mB := fun env s => match a env s with
  | none => none
  | some (false, s1) => some (false, s1)
  | some (true, s1) => b env s1
def mBor (a b : mB) : mB := fun env s => match a env s with
  | none => none
  | some (true, s1) => some (true, s1)
  | some (false, s1) => b env s1
def mBnot (a : mB) : mB := fun env s => match a env s with
  | none => none
  | some (b, s1) => some (!b, s1)
theorem mBand_inv {a b : mB} {env : Ev} {s s2 : Tn} {c : Bool} (h : mBand a b env s = some (c, s2)) : (a env s = some (false, s2) ∧ c = false) ∨ ∃ s1, a env s = some (true, s1) ∧ b env s1 = some (c, s2) := by
  unfold mBand at h
  split at h
  · cases h
  · rename_i s1 e
    cases h
    exact .inl ⟨e, rfl⟩
  · rename_i s1 e
    exact .inr ⟨s1, e, h⟩
theorem mBor_inv {a b : mB} {env : Ev} {s s2 : Tn} {c : Bool} (h : mBor a b env s = some (c, s2)) : (a env s = some (true, s2) ∧ c = true) ∨ ∃ s1, a env s = some (false, s1) ∧ b env s1 = some (c, s2) := by
  unfold mBor at h
  split at h
  · cases h
  · rename_i s1 e
    cases h
    exact .inl ⟨e, rfl⟩
  · rename_i s1 e
    exact .inr ⟨s1, e, h⟩
theorem mBnot_inv {a : mB} {env : Ev} {s s2 : Tn} {c : Bool} (h : mBnot a env s = some (c, s2)) : a env s = some (!c, s2) := by
  unfold mBnot at h
  split at h
  · cases h
  · rename_i b s1 e
    cases h
    rw [Bool.not_not]
    exact e
/-- the same as values -/
def mVand (a b : mE) : mE := fun env s => match a env s with
  | some (.bool false, s1) => some (.bool false, s1)
  | some (.bool true, s1) => b env s1
  | _ => none
def mVor (a b : mE) : mE := fun env s => match a env s with
  | some (.bool true, s1) => some (.bool true, s1)
  | some (.bool false, s1) => b env s1
  | _ => none
theorem mVand_inv {a b : mE} {env : Ev} {s s2 : Tn} {c : Dt} (h : mVand a b env s = some (c, s2)) : (a env s = some (.bool false, s2) ∧ c = .bool false) ∨ ∃ s1, a env s = some (.bool true, s1) ∧ b env s1 = some (c, s2) := by
  unfold mVand at h
  split at h
  · rename_i s1 e
    cases h
    exact .inl ⟨e, rfl⟩
  · rename_i s1 e
    exact .inr ⟨s1, e, h⟩
  · cases h
theorem mVor_inv {a b : mE} {env : Ev} {s s2 : Tn} {c : Dt} (h : mVor a b env s = some (c, s2)) : (a env s = some (.bool true, s2) ∧ c = .bool true) ∨ ∃ s1, a env s = some (.bool false, s1) ∧ b env s1 = some (c, s2) := by
  unfold mVor at h
  split at h
  · rename_i s1 e
    cases h
    exact .inl ⟨e, rfl⟩
  · rename_i s1 e
    exact .inr ⟨s1, e, h⟩
  · cases h
def dNot : Dt → Option Dt
  | .bool b => some (.bool (!b))
  | _ => none
def mIf (c : mB) (a b : mE) : mE := fun env s => match c env s with
  | none => none
  | some (true, s1) => a env s1
  | some (false, s1) => b env s1
theorem mIf_inv {c : mB} {a b : mE} {env : Ev} {s s2 : Tn} {z : Dt} (h : mIf c a b env s = some (z, s2)) : ∃ k s1, c env s = some (k, s1) ∧ (if k = true then a env s1 else b env s1) = some (z, s2) := by
  unfold mIf at h
  split at h
  · cases h
  · rename_i s1 e
    exact ⟨true, s1, e, by rw [if_pos rfl]; exact h⟩
  · rename_i s1 e
    exact ⟨false, s1, e, by rw [if_neg Bool.false_ne_true]; exact h⟩
section
variable {X : Cx} {a b : Expr} {rest : List Expr} {ma mb : mE} {ba bb : mB} {pos : Pos}
theorem sb_of {σ : L2.St} {H : Hp} {Q : Bool → Hp → Prop} (h : SB (mT ma) σ H Q) : SE ma σ H fun x H1 => ∃ c, x = .bl c ∧ Q c H1 := by
  obtain ⟨T, G, env, s, c, s1, w, e, hm, k⟩ := h
  exact SE.seq w e (mT_inv hm) fun G1 H1 v x w1 _ dv => ⟨c, dv.bl_, k G1 H1 x w1⟩
theorem st_val (h : PE X a (SE ma)) (he : ∀ whole, isTrue a X.env whole = (do let v ← whole; standAt a.pos; holding [v] (truthy v)) := by intro _; rfl) : PT X a (SB (mT ma)) := sim_pt (pt_val h he) fun _ _ _ h => sb_of h
theorem st_cmp {op : CmpOp} {f : Dt → Dt → Option Dt} (ho : OpR X (compareOp op) (r2 f)) (ha : PE X a (SE ma)) (hb : PE X b (SE mb)) (hm : behindInMarks op b = false := by first | exact nomark _ | rfl) : PT X (.Compare a [op] [b] pos) (SB (mT (m2 f ma mb))) :=
  sim_pt (pt_cmpR ho ha hb hm) fun _ _ _ h => by
    obtain ⟨T, G, env, s, c, s1, w, e, hm, k⟩ := h
    exact r2_of ⟨T, G, env, s, .bool c, s1, w, e, mT_inv hm, fun G1 H1 v x w1 dv => ⟨c, dv.bl_, k G1 H1 x w1⟩⟩
theorem sw_one (h : PT X a (SB ba)) : PW X (.BoolOp .And [a] pos) (SB ba) := pw_and1 h
theorem sw_oneO (h : PT X a (SB ba)) : PW X (.BoolOp .Or [a] pos) (SB ba) := pw_or1 h
theorem sw_and (ha : PT X a (SB ba)) (hb : PW X (.BoolOp .And (b :: rest) pos) (SB bb)) : PW X (.BoolOp .And (a :: b :: rest) pos) (SB (mBand ba bb)) := sim_pw (pw_and ha hb) fun σ H Q h => by
  obtain ⟨T, G, env, s, c, s2, w, e, hm, k⟩ := h
  rcases mBand_inv hm with ⟨h1, rfl⟩ | ⟨s1, h1, h2⟩
  · exact SB.seq w e h1 fun G1 H1 x w1 e1 => k G1 H1 x w1
  · exact SB.seq w e h1 fun G1 H1 x w1 e1 => SB.seq w1 e1 h2 fun G2 H2 x2 w2 _ => k G2 H2 (x.trans w1 x2) w2
theorem sw_or (ha : PT X a (SB ba)) (hb : PW X (.BoolOp .Or (b :: rest) pos) (SB bb)) : PW X (.BoolOp .Or (a :: b :: rest) pos) (SB (mBor ba bb)) := sim_pw (pw_or ha hb) fun σ H Q h => by
  obtain ⟨T, G, env, s, c, s2, w, e, hm, k⟩ := h
  rcases mBor_inv hm with ⟨h1, rfl⟩ | ⟨s1, h1, h2⟩
  · exact SB.seq w e h1 fun G1 H1 x w1 e1 => k G1 H1 x w1
  · exact SB.seq w e h1 fun G1 H1 x w1 e1 => SB.seq w1 e1 h2 fun G2 H2 x2 w2 _ => k G2 H2 (x.trans w1 x2) w2
theorem st_w (h : PW X a (SB ba)) : PT X a (SB ba) := h.pt
theorem st_not (ha : PT X a (SB ba)) : PT X (.UnaryOp .Not a pos) (SB (mBnot ba)) := sim_pt (pt_not ha) fun σ H Q h => by
  obtain ⟨T, G, env, s, c, s2, w, e, hm, k⟩ := h
  exact SB.seq w e (mBnot_inv hm) fun G1 H1 x w1 e1 => by rw [Bool.not_not]; exact k G1 H1 x w1
theorem sv_one {op} (h : PE X a (SE ma)) : PE X (.BoolOp op [a] pos) (SE ma) := pe_one h
theorem sv_and (ha : PE X a (SE ma)) (hb : PE X (.BoolOp .And (b :: rest) pos) (SE mb)) : PE X (.BoolOp .And (a :: b :: rest) pos) (SE (mVand ma mb)) := sim_pe (pe_and ha hb) fun σ H Q h => by
  obtain ⟨T, G, env, s, c, s2, w, e, hm, k⟩ := h
  rcases mVand_inv hm with ⟨h1, rfl⟩ | ⟨s1, h1, h2⟩
  · exact SE.seq w e h1 fun G1 H1 v x w1 e1 dv => ⟨false, dv.bl_, iteF (k G1 H1 _ x w1 (.inl (.bl false)))⟩
  · exact SE.seq w e h1 fun G1 H1 v x w1 e1 dv => ⟨true, dv.bl_, iteT (SE.seq w1 e1 h2 fun G2 H2 v2 x2 w2 _ dv2 => k G2 H2 v2 (x.trans w1 x2) w2 dv2)⟩
theorem sv_or (ha : PE X a (SE ma)) (hb : PE X (.BoolOp .Or (b :: rest) pos) (SE mb)) : PE X (.BoolOp .Or (a :: b :: rest) pos) (SE (mVor ma mb)) := sim_pe (pe_or ha hb) fun σ H Q h => by
  obtain ⟨T, G, env, s, c, s2, w, e, hm, k⟩ := h
  rcases mVor_inv hm with ⟨h1, rfl⟩ | ⟨s1, h1, h2⟩
  · exact SE.seq w e h1 fun G1 H1 v x w1 e1 dv => ⟨true, dv.bl_, iteT (k G1 H1 _ x w1 (.inl (.bl true)))⟩
  · exact SE.seq w e h1 fun G1 H1 v x w1 e1 dv => ⟨false, dv.bl_, iteF (SE.seq w1 e1 h2 fun G2 H2 v2 x2 w2 _ dv2 => k G2 H2 v2 (x.trans w1 x2) w2 dv2)⟩
theorem sv_not (ha : PE X a (SE ma)) : PE X (.UnaryOp .Not a pos) (SE (m1 dNot ma)) := sim_pe (pe_not ha) fun σ H Q h => by
  obtain ⟨T, G, env, s, z, s2, w, e, hm, k⟩ := h
  obtain ⟨d, h1, h3⟩ := m1_inv hm
  refine SE.seq w e h1 fun G1 H1 x x1 w1 e1 dv1 => ?_
  cases d with
  | bool b =>
    cases h3
    exact ⟨b, dv1.bl_, k G1 H1 _ x1 w1 (.inl (.bl _))⟩
  | _ => cases h3
theorem se_ifExp {c : Expr} (hc : PT X c (SB ba)) (ha : PE X a (SE ma)) (hb : PE X b (SE mb)) : PE X (.IfExp c a b pos) (SE (mIf ba ma mb)) := sim_pe (pe_ifExp hc ha hb) fun σ H Q h => by
  obtain ⟨T, G, env, s, z, s2, w, e, hm, k⟩ := h
  obtain ⟨c, s1, h1, h2⟩ := mIf_inv hm
  refine SB.seq w e h1 fun G1 H1 x w1 e1 => ?_
  cases c with
  | true =>
    rw [if_pos rfl] at h2 ⊢
    exact SE.seq w1 e1 h2 fun G2 H2 v2 x2 w2 _ dv2 => k G2 H2 v2 (x.trans w1 x2) w2 dv2
  | false =>
    rw [if_neg Bool.false_ne_true] at h2 ⊢
    exact SE.seq w1 e1 h2 fun G2 H2 v2 x2 w2 _ dv2 => k G2 H2 v2 (x.trans w1 x2) w2 dv2
end

/-! ### arguments, tuples, lists -/
def mNil : mA := fun _ s => some ([], s)
def mCons (a : mE) (r : mA) : mA := fun env s => match a env s with
  | none => none
  | some (d, s1) => match r env s1 with
    | none => none
    | some (ds, s2) => some (d :: ds, s2)
theorem mCons_inv {a : mE} {r : mA} {env : Ev} {s s2 : Tn} {z : List Dt} (h : mCons a r env s = some (z, s2)) : ∃ d s1 ds, a env s = some (d, s1) ∧ r env s1 = some (ds, s2) ∧ z = d :: ds := by
  unfold mCons at h
  split at h
  · cases h
  · rename_i d s1 e1
    split at h
    · cases h
    · rename_i ds s3 e2
      cases h
      exact ⟨d, s1, ds, e1, e2, rfl⟩
def isTin : Dt → Bool
  | .dict _ => true
  | _ => false
theorem isTin_not {d : Dt} (h : isTin d = false) : ∀ x, d ≠ .dict x := fun x e => by
  subst e
  cases h
def mF (f : List Dt → Option Dt) (a : mA) : mE := fun env s => match a env s with
  | none => none
  | some (ds, s1) => match f ds with
    | none => none
    | some z => some (z, s1)
theorem mF_inv {f : List Dt → Option Dt} {a : mA} {env : Ev} {s s1 : Tn} {z : Dt} (h : mF f a env s = some (z, s1)) : ∃ ds, a env s = some (ds, s1) ∧ f ds = some z := by
  unfold mF at h
  split at h
  · cases h
  · rename_i d s2 e1
    split at h
    · cases h
    · rename_i z' e3
      cases h
      exact ⟨d, e1, e3⟩
def dTup (ds : List Dt) : Option Dt := if ds.any isTin = true ∨ ¬ ds.length ≤ 16777216 then none else some (.tuple ds)
def dLst (ds : List Dt) : Option Dt := if ds.any isTin = true ∨ ¬ ds.length ≤ 16777216 then none else some (.list ds)
theorem noTin {ds : List Dt} (h : ¬ ds.any isTin = true) : ∀ d ∈ ds, ∀ x, d ≠ .dict x := fun d hd => by
  refine isTin_not ?_
  cases e : isTin d with
  | false => rfl
  | true => exact absurd (List.any_eq_true.mpr ⟨d, hd, e⟩) h
def rF (f : List Dt → Option Dt) : List V → Hp → VK → Prop := fun xs H Q => ∃ T G ds z s, Wd T s G H ∧ DvAll T G xs ds ∧ f ds = some z ∧ Th T s G H z Q
theorem DvAll.len {T : Tm} {G : Hp} : ∀ {vs : List V} {ds : List Dt}, DvAll T G vs ds → vs.length = ds.length
  | _, _, .nil => rfl
  | _, _, .cons _ t => by rw [List.length_cons, List.length_cons, DvAll.len t]
section
variable {X : Cx} {e : Expr} {es : List Expr} {me : mE} {ms : mA} {pos : Pos}
theorem sa_nil : PA X [] (SA mNil) := sim_pa pa_nil fun σ H Q h => by
  obtain ⟨T, G, env, s, z, s2, w, e, hm, k⟩ := h
  cases hm
  exact k G H [] .refl w .nil
theorem sa_cons (ha : PE X e (SE me)) (hr : PA X es (SA ms)) (hs : starEach (e :: es) X.env = (false, eval e X.env) :: starEach es X.env := by rfl) : PA X (e :: es) (SA (mCons me ms)) := sim_pa (pa_cons ha hr hs) fun σ H Q h => by
  obtain ⟨T, G, env, s, z, s2, w, e, hm, k⟩ := h
  obtain ⟨d, s1, ds, h1, h2, rfl⟩ := mCons_inv hm
  exact SE.seq w e h1 fun G1 H1 v x w1 e1 dv => SA.seq w1 e1 h2 fun G2 H2 v2 x2 w2 _ dv2 => k G2 H2 _ (x.trans w1 x2) w2 (.cons (dv.mono x2.up) dv2)
theorem rF_of {f : List Dt → Option Dt} {σ : L2.St} {H : Hp} {Q : VK} (h : SE (mF f ms) σ H Q) : SA ms σ H fun xs H1 => rF f xs H1 Q := by
  obtain ⟨T, G, env, s, z, s2, w, e, hm, k⟩ := h
  obtain ⟨ds, h1, h3⟩ := mF_inv hm
  exact SA.seq w e h1 fun G1 H1 v x w1 e1 dv => ⟨T, G1, ds, z, s2, w1, dv, h3, fun G3 H3 v x3 w3 dv3 => k G3 H3 v (x.trans w1 x3) w3 dv3⟩
theorem sizeLine_is : (sizeLine : Nat) = 16777216 := sizeLine_eq
theorem se_tup {x1} (h : PA X es (SA ms)) : PE X (.Tuple es x1 pos) (SE (mF dTup ms)) := sim_pe (pe_tup h) fun σ H Q h => by
  obtain ⟨T, G, env, s, z, s2, w, e, hm, k⟩ := h
  obtain ⟨ds, h1, h3⟩ := mF_inv hm
  unfold dTup at h3
  split at h3
  · cases h3
  · rename_i c
    cases h3
    rw [not_or, Classical.not_not] at c
    exact SA.seq w e h1 fun G1 H1 v x w1 e1 dv => ⟨by rw [sizeLine_is, dv.len]; exact c.2, fun p hp =>
      k _ _ _ (x.trans w1 (.alloc w1 (.tup v) hp)) (w1.alloc _ hp) (.inl (.tup upd_same (DqAll.mono (same_upd _ (w1.free hp)) _ _ (dv.dq (noTin c.1)))))⟩
theorem se_lst (h : PA X es (SA ms)) : PE X (.List es pos) (SE (mF dLst ms)) := sim_pe (pe_lst h) fun σ H Q h => by
  obtain ⟨T, G, env, s, z, s2, w, e, hm, k⟩ := h
  obtain ⟨ds, h1, h3⟩ := mF_inv hm
  unfold dLst at h3
  split at h3
  · cases h3
  · rename_i c
    cases h3
    rw [not_or, Classical.not_not] at c
    exact SA.seq w e h1 fun G1 H1 v x w1 e1 dv => ⟨by rw [sizeLine_is, dv.len]; exact c.2, fun p hp =>
      k _ _ _ (x.trans w1 (.alloc w1 (.lst v) hp)) (w1.alloc _ hp) (.inl (.lst upd_same (DqAll.mono (same_upd _ (w1.free hp)) _ _ (dv.dq (noTin c.1)))))⟩
/-- a built-in function, a built-in class -/
theorem se_callB {f : List Dt → Option Dt} {x : Str} {p : Pos} {id : String} (hc : CallR X (.builtin id) (rF f)) (hm : X.mg x = none) (hv : bootBuiltins x = some (.builtin id)) (ha : PA X (e :: es) (SA ms)) (hg : Gl X x := by rfl) (hn : x ≠ "__name__" := by decide) (hdb : (x == ("__debug__" : Str)) = false := by decide)
    (he : starEach (e :: es) X.env = (false, eval e X.env) :: starEach es X.env := by rfl) (hpl : (backTo pos (starEach es X.env)).any (·.1) = false := by rfl) : PE X (.Call (.Name x p) (e :: es) [] pos) (SE (mF f ms)) := sim_pe (pe_callB hc hg hm hv ha hn hdb he hpl) fun _ _ _ h => rF_of h
theorem se_callT {f : List Dt → Option Dt} {x : Str} {p : Pos} {id : String} (hc : CallR X (.type id) (rF f)) (hm : X.mg x = none) (hv : bootBuiltins x = some (.type id)) (ha : PA X (e :: es) (SA ms)) (hg : Gl X x := by rfl) (hn : x ≠ "__name__" := by decide) (hdb : (x == ("__debug__" : Str)) = false := by decide)
    (he : starEach (e :: es) X.env = (false, eval e X.env) :: starEach es X.env := by rfl) (hpl : (backTo pos (starEach es X.env)).any (·.1) = false := by rfl) : PE X (.Call (.Name x p) (e :: es) [] pos) (SE (mF f ms)) := sim_pe (pe_callTy hc hg hm hv ha hn hdb he hpl) fun _ _ _ h => rF_of h
end
end Md
-- Md1
set_option Elab.async false
set_option linter.all false
set_option maxRecDepth 100000
set_option maxHeartbeats 2000000
/-! Statements, targets, what is walked, comprehensions, defs: by their data. -/
namespace Md
open PySem PySem.Spec PyProof.Rows L2
set_option autoImplicit false

/-! ### statements -/
def mNext : mS := fun env s => some (.nx env, s)
def mSeq (t u : mS) : mS := fun env s => match t env s with
  | some (.nx e, s1) => u e s1
  | r => r
def mAsg (a : mE) (g : Dt → Ev → Option Ev) : mS := fun env s => match a env s with
  | none => none
  | some (d, s1) => match g d env with
    | none => none
    | some e => some (.nx e, s1)
def mIfS (c : mB) (t u : mS) : mS := fun env s => match c env s with
  | none => none
  | some (true, s1) => t env s1
  | some (false, s1) => u env s1
def mRet (a : mE) : mS := fun env s => match a env s with
  | none => none
  | some (d, s1) => some (.rt d, s1)
theorem mRet_inv {a : mE} {env : Ev} {s s1 : Tn} {f : Fl} (h : mRet a env s = some (f, s1)) : ∃ d, a env s = some (d, s1) ∧ f = .rt d := by
  unfold mRet at h
  split at h
  · cases h
  · rename_i d s2 e
    cases h
    exact ⟨d, e, rfl⟩
theorem mAsg_inv {a : mE} {g : Dt → Ev → Option Ev} {env : Ev} {s s1 : Tn} {f : Fl} (h : mAsg a g env s = some (f, s1)) : ∃ d e, a env s = some (d, s1) ∧ g d env = some e ∧ f = .nx e := by
  unfold mAsg at h
  split at h
  · cases h
  · rename_i d s2 e1
    split at h
    · cases h
    · rename_i e e2
      cases h
      exact ⟨d, e, e1, e2, rfl⟩
theorem mIfS_inv {c : mB} {a b : mS} {env : Ev} {s s2 : Tn} {z : Fl} (h : mIfS c a b env s = some (z, s2)) : ∃ k s1, c env s = some (k, s1) ∧ (if k = true then a env s1 else b env s1) = some (z, s2) := by
  unfold mIfS at h
  split at h
  · cases h
  · rename_i s1 e
    exact ⟨true, s1, e, by rw [if_pos rfl]; exact h⟩
  · rename_i s1 e
    exact ⟨false, s1, e, by rw [if_neg Bool.false_ne_true]; exact h⟩
/-! ### targets -/
def SG (g : Dt → Ev → Option Ev) (ws : List Nat) : TG := fun v σ H Q => ∃ T G env s d e, Wd T s G H ∧ EnvOk T G σ env ∧ Dv T G v d ∧ g d env = some e ∧ ∀ σ', EnvOk T G σ' e → σ'.length = σ.length → (∀ j, j ∉ ws → σ'[j]? = σ[j]?) → Q σ' H
def SGs (g : List Dt → Ev → Option Ev) (ws : List Nat) : TGs := fun v σ H Q => ∃ T G env s d e, Wd T s G H ∧ EnvOk T G σ env ∧ DvAll T G v d ∧ g d env = some e ∧ ∀ σ', EnvOk T G σ' e → σ'.length = σ.length → (∀ j, j ∉ ws → σ'[j]? = σ[j]?) → Q σ' H
def aName (i : Nat) : Dt → Ev → Option Ev := fun d env => some (env.set i (some d))
def aNil : List Dt → Ev → Option Ev := fun ds env => match ds with
  | [] => some env
  | _ :: _ => none
def aCons (a : Dt → Ev → Option Ev) (r : List Dt → Ev → Option Ev) : List Dt → Ev → Option Ev := fun ds env => match ds with
  | [] => none
  | d :: ds => match a d env with
    | none => none
    | some e => r ds e
def aTup (n : Nat) (r : List Dt → Ev → Option Ev) : Dt → Ev → Option Ev := fun d env => match d with
  | .tuple ds => if ds.length = n then r ds env else none
  | _ => none
section
variable {X : Cx} {e : Expr} {es : List Expr} {pos : Pos} {g : Dt → Ev → Option Ev} {gs : List Dt → Ev → Option Ev} {ws us : List Nat}
theorem sg_name (i : Nat) {x : Str} (hN : X.N.Nodup) (hi : X.N[i]? = some x) (hx : Loc X.env.scope x) (hf : X.fn x = true ∨ X.env.scope.names.lookup x = some .local := by first | exact .inl rfl | exact .inr rfl | assumption) : PG X (.Name x pos) (SG (aName i) [i]) :=
  sim_pg (pg_name hN hi hx hf) fun v σ H Q h => by
    obtain ⟨T, G, env, s, d, e, w, eo, dv, hg, k⟩ := h
    cases hg
    exact k _ (eo.set i dv) (List.length_set ..) fun j hj => List.getElem?_set_ne (fun z => hj (by rw [z]; exact List.mem_singleton.mpr rfl))
theorem sgs_nil : PGs X [] (SGs aNil []) := ⟨fun pins s σ H vs us Q I r h => by
  obtain ⟨T, G, env, s0, d, e, w, eo, dv, hg, k⟩ := h
  cases dv with
  | nil =>
    cases hg
    exact pgs_nil.run pins s σ H _ us Q I r ⟨rfl, k σ eo rfl fun _ _ => rfl⟩
  | cons _ _ => cases hg⟩
theorem sgs_cons (h1 : PG X e (SG g ws)) (h2 : PGs X es (SGs gs us)) (hs : (assignEach (e :: es) X.env).map (·.2) = assign e X.env :: (assignEach es X.env).map (·.2) := by rfl) : PGs X (e :: es) (SGs (aCons g gs) (ws ++ us)) :=
  ⟨fun pins s σ H vs vals Q I r h => by
    obtain ⟨T, G, env, s0, d, e, w, eo, dv, hg, k⟩ := h
    refine (pgs_cons h1 h2 hs).run pins s σ H vs vals Q I r ?_
    cases dv with
    | nil => cases hg
    | @cons v d1 vr dr dv1 dvr =>
      have hg : (match g d1 env with | none => none | some e => gs dr e) = some e := hg
      split at hg
      · cases hg
      · rename_i e1 he1
        refine ⟨v, vr, rfl, T, G, env, s0, d1, e1, w, eo, dv1, he1, fun σ1 eo1 hl1 ag1 => ?_⟩
        exact ⟨T, G, e1, s0, dr, e, w, eo1, dvr, hg, fun σ2 eo2 hl2 ag2 => k σ2 eo2 (hl2.trans hl1) fun j hj =>
          (ag2 j fun z => hj (List.mem_append_right _ z)).trans (ag1 j fun z => hj (List.mem_append_left _ z))⟩⟩
theorem sg_tup {k n : Nat} (hc : X.calm = true) (h : PGs X es (SGs gs ws)) (hn : (assignEach es X.env).length = n := by rfl) (hst : (assignEach es X.env).findIdx? (·.1) = none := by rfl) : PG X (.Tuple es k pos) (SG (aTup n gs) ws) :=
  sim_pg (pg_tup hc h hn hst) fun v σ H Q h => by
    obtain ⟨T, G, env, s, d, e, w, eo, dv, hg, k⟩ := h
    cases d with
    | tuple ds =>
      obtain ⟨a, xs, rfl, ha, hx⟩ := dv.tup_
      have hg : (if ds.length = n then gs ds env else none) = some e := hg
      split at hg
      · rename_i hl
        exact ⟨a, xs, rfl, SqT.of (w.sub _ _ ha), hx.length.trans hl, T, G, env, s, ds, e, w, eo, hx.dv, hg, k⟩
      · cases hg
    | _ => cases hg
end
section
variable {X : Cx} {e : Expr} {es : List Expr} {pos : Pos} {me : mE} {st : Stmt} {rest : List Stmt} {ma mb : mS} {g : Dt → Ev → Option Ev} {ws : List Nat}
theorem sss_nil : PSs X [] (SS mNext) := sim_pss pss_nil fun E σ H h => by
  obtain ⟨T, G, env, s, f, s', w, e, hm, k⟩ := h
  cases hm
  exact k G H .refl w σ e rfl
theorem sss_cons (h1 : PS X st (SS ma)) (h2 : PSs X rest (SS mb)) : PSs X (st :: rest) (SS (mSeq ma mb)) := sim_pss (pss_cons h1 h2) fun E σ H h => by
  obtain ⟨T, G, env, s, f, s', w, e, hm, k⟩ := h
  unfold mSeq at hm
  show SS ma { E with nx := SS mb E } σ H
  split at hm
  · rename_i e1 s1 h1
    refine ⟨T, G, env, s, .nx e1, s1, w, e, h1, fun G1 H1 x1 w1 σ1 eo1 hl1 => ?_⟩
    refine ⟨T, G1, e1, s1, f, s', w1, eo1, hm, fun G2 H2 x2 w2 => ?_⟩
    have q := k G2 H2 (x1.trans w1 x2) w2
    rw [hl1]
    exact q
  · rename_i hne
    refine ⟨T, G, env, s, f, s', w, e, hm, fun G1 H1 x1 w1 => ?_⟩
    have q := k G1 H1 x1 w1
    cases f with
    | nx e1 => exact absurd hm (hne e1 s')
    | rt d => exact q
    | bk e1 => exact q
    | ct e1 => exact q
theorem sss_one (h1 : PS X st (SS ma)) : PSs X [st] (SS ma) := pss_one h1
theorem ss_set (i : Nat) {x : Str} {pos' : Pos} (hN : X.N.Nodup) (he : PE X e (SE me)) (hi : X.N[i]? = some x := by rfl) (hx : Loc X.env.scope x := by first | exact Or.inl rfl | exact Or.inr rfl) (hs : swapsWith e (some (.Name x pos')) pos.line X.env = pure false := by rfl)
    (hf : X.fn x = true ∨ X.env.scope.names.lookup x = some .local := by first | exact .inl rfl | exact .inr rfl | assumption) : PS X (.Assign [.Name x pos'] e pos) (SS (mAsg me (aName i))) := sim_ps (ps_set hN hi hx he hs hf) fun E σ H h => by
  obtain ⟨T, G, env, s, f, s', w, e, hm, k⟩ := h
  obtain ⟨d, e1, h1, h2, rfl⟩ := mAsg_inv hm
  cases h2
  exact SE.seq w e h1 fun G1 H1 v x1 w1 eo1 dv1 => k G1 H1 x1 w1 _ (eo1.set i dv1) (List.length_set ..)
theorem ss_asg {tg : Expr} (he : PE X e (SE me)) (hg : PG X tg (SG g ws)) (hs : swapsWithSole [tg] e pos.line X.env = pure false := by rfl) (hw : swappedStores [tg] e X.env = pure none := by rfl)
    (h1 : (assignEach [tg] X.env).map (·.2) = [assign tg X.env] := by rfl) : PS X (.Assign [tg] e pos) (SS (mAsg me g)) := sim_ps (ps_asg he hg hs hw h1) fun E σ H h => by
  obtain ⟨T, G, env, s, f, s', w, e, hm, k⟩ := h
  obtain ⟨d, e1, h1, h2, rfl⟩ := mAsg_inv hm
  exact SE.seq w e h1 fun G1 H1 v x1 w1 eo1 dv1 => ⟨T, G1, env, s', d, e1, w1, eo1, dv1, h2, fun σ2 eo2 hl2 _ => k G1 H1 x1 w1 σ2 eo2 hl2⟩
theorem ss_if {c : Expr} {a b : List Stmt} {mc : mB} (hc : PT X c (SB mc)) (ha : PSs X a (SS ma)) (hb : PSs X b (SS mb)) : PS X (.If c a b pos) (SS (mIfS mc ma mb)) := sim_ps (ps_if hc ha hb) fun E σ H h => by
  obtain ⟨T, G, env, s, f, s', w, e, hm, k⟩ := h
  obtain ⟨c, s1, h1, h2⟩ := mIfS_inv hm
  refine SB.seq w e h1 fun G1 H1 x1 w1 eo1 => ?_
  cases c with
  | true =>
    rw [if_pos rfl] at h2 ⊢
    exact ⟨T, G1, env, s1, f, s', w1, eo1, h2, fun G2 H2 x2 w2 => k G2 H2 (x1.trans w1 x2) w2⟩
  | false =>
    rw [if_neg Bool.false_ne_true] at h2 ⊢
    exact ⟨T, G1, env, s1, f, s', w1, eo1, h2, fun G2 H2 x2 w2 => k G2 H2 (x1.trans w1 x2) w2⟩
theorem ss_ret (he : PE X e (SE me)) : PS X (.Return (some e) pos) (SS (mRet me)) := sim_ps (ps_ret he) fun E σ H h => by
  obtain ⟨T, G, env, s, f, s', w, e, hm, k⟩ := h
  obtain ⟨d, h1, rfl⟩ := mRet_inv hm
  exact SE.seq w e h1 fun G1 H1 v x1 w1 eo1 dv1 => k G1 H1 x1 w1 v dv1
/-- a, b = x, y stored from the right -/
def mPar (i j : Nat) (a : mA) : mS := fun env s => match a env s with
  | some ([d, e], s1) => some (.nx ((env.set i (some d)).set j (some e)), s1)
  | _ => none
theorem ss_par (i j : Nat) {x y : Str} {a b : Expr} {ta : mA} {px py pt : Pos} {kt k2 pt2} (hN : X.N.Nodup) (ha : PA X [a, b] (SA ta)) (hc : X.calm = true := by rfl) (hi : X.N[i]? = some x := by rfl) (hj : X.N[j]? = some y := by rfl) (hij : i ≠ j := by decide)
    (hx : X.env.scope.names.lookup x = some .local := by rfl) (hy : X.env.scope.names.lookup y = some .local := by rfl)
    (hw : swappedStores [.Tuple [.Name x px, .Name y py] kt pt] (.Tuple [a, b] k2 pt2) X.env = pure (some [x, y]) := by rfl)
    (hs : swapsWithSole [.Tuple [.Name x px, .Name y py] kt pt] (.Tuple [a, b] k2 pt2) pos.line X.env = pure false := by rfl) :
    PS X (.Assign [.Tuple [.Name x px, .Name y py] kt pt] (.Tuple [a, b] k2 pt2) pos) (SS (mPar i j ta)) := sim_ps (ps_par hc hN hi hj hij hx hy ha hw hs) fun E σ H h => by
  obtain ⟨T, G, env, s, f, s', w, e, hm, k⟩ := h
  unfold mPar at hm
  split at hm
  · rename_i d1 d2 s1 h1
    cases hm
    refine SA.seq w e h1 fun G1 H1 v x1 w1 eo1 dv1 => ?_
    cases dv1 with
    | cons p q =>
      cases q with
      | cons p' q' =>
        cases q'
        exact ⟨_, _, rfl, k G1 H1 x1 w1 _ ((eo1.set i p).set j p') (by rw [List.length_set, List.length_set])⟩
  · cases hm
/-- name += e, ints -/
def mAug (i : Nat) (a : mE) : mS := fun env s => match env[i]? with
  | some (some (.int x)) => match a env s with
    | some (.int y, s1) => some (.nx (env.set i (some (.int (x + y)))), s1)
    | _ => none
  | _ => none
theorem ss_aug (i : Nat) {x : Str} {pos' : Pos} (hN : X.N.Nodup) (he : PE X e (SE me)) (hi : X.N[i]? = some x := by rfl) (hx : Loc X.env.scope x := by first | exact Or.inl rfl | exact Or.inr rfl)
    (hf : X.fn x = true ∨ X.env.scope.names.lookup x = some .local := by first | exact .inl rfl | exact .inr rfl | assumption) : PS X (.AugAssign (.Name x pos') .Add e pos) (SS (mAug i me)) := sim_ps (ps_aug hN hi hx he ip_add hf) fun E σ H h => by
  obtain ⟨T, G, env, s, f, s', w, e, hm, k⟩ := h
  unfold mAug at hm
  split at hm
  · rename_i x0 hx0
    split at hm
    · rename_i y0 s1 h1
      cases hm
      obtain ⟨v, hv, dv⟩ := e.at_ i _ hx0
      have ev := dv.int_
      subst ev
      refine ⟨_, hv, SE.seq w e h1 fun G1 H1 v2 x1 w1 eo1 dv1 => ⟨x0, y0, rfl, dv1.int_, ?_⟩⟩
      exact k G1 H1 x1 w1 _ (eo1.set i (.inl (.int _))) (List.length_set ..)
    · cases hm
  · cases hm
/-- while: at most so many turns -/
def mWhile (c : mB) (t : mS) : Nat → mS
  | 0 => fun _ _ => none
  | n + 1 => fun env s => match c env s with
    | none => none
    | some (false, s1) => some (.nx env, s1)
    | some (true, s1) => match t env s1 with
      | some (.nx e, s2) => mWhile c t n e s2
      | some (.ct e, s2) => mWhile c t n e s2
      | some (.bk e, s2) => some (.nx e, s2)
      | some (.rt d, s2) => some (.rt d, s2)
      | none => none
theorem ss_while (n : Nat) {c : Expr} {body : List Stmt} {mc : mB} (hp : PassesOwn (model X.prog X.w) X.A X.env X.xe) (hc : PT X c (SB mc)) (hb : PSs X body (SS mb)) : PS X (.While c body [] pos) (SS (mWhile mc mb n)) := sim_ps (ps_while hp hc hb) fun E σ H h => by
  obtain ⟨T, G, env, s, f, s', w, e, hm, k⟩ := h
  refine ⟨fun m σ1 H1 => ∃ G1 env1 s1, Ext T G H G1 H1 ∧ Wd T s1 G1 H1 ∧ EnvOk T G1 σ1 env1 ∧ σ1.length = σ.length ∧ mWhile mc mb m env1 s1 = some (f, s'), ⟨n, G, env, s, .refl, w, e, rfl, hm⟩, ?_⟩
  rintro m σ1 H1 ⟨G1, env1, s1, x1, w1, eo1, hl1, hm1⟩
  cases m with
  | zero => cases hm1
  | succ m =>
    unfold mWhile at hm1
    split at hm1
    · cases hm1
    · rename_i s2 h2
      cases hm1
      exact SB.seq w1 eo1 h2 fun G2 H2 x2 w2 eo2 => iteF (k G2 H2 (x1.trans w1 x2) w2 σ1 eo2 hl1)
    · rename_i s2 h2
      refine SB.seq w1 eo1 h2 fun G2 H2 x2 w2 eo2 => iteT ⟨_, fun _ _ h => ⟨m, Nat.lt_succ_self m, h⟩, ?_⟩
      have x12 := x1.trans w1 x2
      split at hm1
      · rename_i e3 s3 h3
        exact ⟨T, G2, env1, s2, .nx e3, s3, w2, eo2, h3, fun G3 H3 x3 w3 σ3 eo3 hl3 => ⟨G3, e3, s3, x12.trans w2 x3, w3, eo3, hl3.trans hl1, hm1⟩⟩
      · rename_i e3 s3 h3
        exact ⟨T, G2, env1, s2, .ct e3, s3, w2, eo2, h3, fun G3 H3 x3 w3 σ3 eo3 hl3 => ⟨G3, e3, s3, x12.trans w2 x3, w3, eo3, hl3.trans hl1, hm1⟩⟩
      · rename_i e3 s3 h3
        cases hm1
        exact ⟨T, G2, env1, s2, .bk e3, s', w2, eo2, h3, fun G3 H3 x3 w3 σ3 eo3 hl3 => k G3 H3 (x12.trans w2 x3) w3 σ3 eo3 (hl3.trans hl1)⟩
      · rename_i d s3 h3
        cases hm1
        exact ⟨T, G2, env1, s2, .rt d, s', w2, eo2, h3, fun G3 H3 x3 w3 => k G3 H3 (x12.trans w2 x3) w3⟩
      · cases hm1
end

/-! ### what is walked -/
/-- turn i gives the i-th item -/
def YD (T : Tm) (G : Hp) (ds : List Dt) : Nat → Hp → V → Hp → Prop := fun i H v H' => ∀ G1 s, Same G G1 → Wd T s G1 H → ∃ G2 d, ds[i]? = some d ∧ Ext T G1 H G2 H' ∧ Wd T s G2 H' ∧ Dv T G2 v d
def WalkD (T : Tm) (G : Hp) (J : It) (ds : List Dt) : Prop := Walk J ds.length (Same G) (YD T G ds)
def SI (m : mA) : TI := fun σ H R => ∃ T G env s ds s', Wd T s G H ∧ EnvOk T G σ env ∧ m env s = some (ds, s') ∧ ∀ G' H' J, Ext T G H G' H' → Wd T s' G' H' → WalkD T G' J ds → R J H'
/-- the turns of a for -/
def mForL (g : Dt → Ev → Option Ev) (t : mS) : List Dt → mS
  | [] => fun env s => some (.nx env, s)
  | d :: ds => fun env s => match g d env with
    | none => none
    | some e => match t e s with
      | some (.nx e, s2) => mForL g t ds e s2
      | some (.ct e, s2) => mForL g t ds e s2
      | some (.bk e, s2) => some (.nx e, s2)
      | some (.rt d, s2) => some (.rt d, s2)
      | none => none
def mFor (i : mA) (g : Dt → Ev → Option Ev) (t : mS) : mS := fun env s => match i env s with
  | none => none
  | some (ds, s1) => mForL g t ds env s1
theorem same_seqT {K : PySem.W.Frag} {H H' : Hp} {a : Addr} {xs : List V} (e : Same H H') (h : SqT K H a xs) : SqT K H' a xs := by
  rcases h with (h | ⟨o, h⟩) | h
  · exact .inl (.inl (e _ _ h))
  · exact .inl (.inr ⟨o, e _ _ h⟩)
  · exact .inr h
/-- a walk of values that stand, the heap as it was -/
theorem walkD_at {T : Tm} {G : Hp} {J : It} {xs : List V} {ds : List Dt} {P : Hp → Prop} (hx : DvAll T G xs ds) (w : Walk J xs.length P (YAt xs)) (hp : ∀ H, Same G H → P H) : WalkD T G J ds := by
  unfold WalkD
  rw [← hx.len]
  refine w.mono (fun H h => hp H h) fun i H v H' hi _ y => ?_
  obtain ⟨rfl, y⟩ := y
  intro G1 s sg w1
  have ex : ∃ d, ds[i]? = some d ∧ Dv T G v d := by
    clear w w1
    revert i
    induction hx with
    | nil => intro i hi y; simp at y
    | @cons a b xs ds h t ih =>
      intro i hi y
      cases i with
      | zero =>
        simp at y
        subst y
        exact ⟨b, rfl, h⟩
      | succ i =>
        obtain ⟨d, h1, h2⟩ := ih i (by simp at hi; omega) (by simpa using y)
        exact ⟨d, by simpa using h1, h2⟩
  obtain ⟨d, h1, h2⟩ := ex
  exact ⟨G1, d, h1, .refl, w1, h2.mono sg⟩
/-- a walk whose items are new pairs -/
theorem walkD_pair {T : Tm} {G : Hp} {J : It} {n : Nat} {xs ys : Nat → Option V} {ds : List Dt} {P : Hp → Prop} (w : Walk J n P (YPair xs ys)) (hn : ds.length = n) (hp : ∀ H, Same G H → P H)
    (hd : ∀ i x y, xs i = some x → ys i = some y → ∃ d e, ds[i]? = some (.tuple [d, e]) ∧ Dq G x d ∧ Dq G y e) : WalkD T G J ds := by
  unfold WalkD
  rw [hn]
  refine w.mono (fun H h => hp H h) fun i H v H' hi _ y => ?_
  obtain ⟨p, x, z, rfl, h1, rfl, hx, hz⟩ := y
  intro G1 s sg w1
  obtain ⟨d, e, h2, h3, h4⟩ := hd i x z hx hz
  have sg2 := same_upd (.tup [x, z]) (w1.free h1)
  exact ⟨upd G1 p (.tup [x, z]), _, h2, .alloc w1 _ h1, w1.alloc _ h1, .inl (.tup upd_same (.cons (Dq.mono sg2 _ _ (Dq.mono sg _ _ h3)) (.cons (Dq.mono sg2 _ _ (Dq.mono sg _ _ h4)) .nil)))⟩
section
variable {X : Cx} {e tg : Expr} {es : List Expr} {pos : Pos} {me : mE} {ms : mA}
def iL (a : mE) : mA := fun env s => match a env s with
  | some (.list ds, s1) => some (ds, s1)
  | _ => none
def iT (a : mE) : mA := fun env s => match a env s with
  | some (.tuple ds, s1) => some (ds, s1)
  | _ => none
def iS (a : mE) : mA := fun env s => match a env s with
  | some (.str x, s1) => some (x.cps.toList.map fun c => .str ⟨#[c]⟩, s1)
  | _ => none
theorem iL_inv {a : mE} {env : Ev} {s s1 : Tn} {ds : List Dt} (h : iL a env s = some (ds, s1)) : a env s = some (.list ds, s1) := by
  unfold iL at h
  split at h
  · rename_i e
    cases h
    exact e
  · cases h
theorem iT_inv {a : mE} {env : Ev} {s s1 : Tn} {ds : List Dt} (h : iT a env s = some (ds, s1)) : a env s = some (.tuple ds, s1) := by
  unfold iT at h
  split at h
  · rename_i e
    cases h
    exact e
  · cases h
theorem si_list (h : PE X e (SE me)) : PI X tg e (SI (iL me)) := ⟨fun pins s σ H R I q => (pi_list h).run pins s σ H R I (by
  obtain ⟨T, G, env, s, ds, s', w, e, hm, k⟩ := q
  refine SE.seq w e (iL_inv hm) fun G1 H1 v x1 w1 eo1 dv1 => ?_
  obtain ⟨a, xs, rfl, ha, hx⟩ := dv1.lst_
  exact ⟨a, rfl, ⟨xs, SqL.of (w1.sub _ _ ha)⟩, k G1 H1 _ x1 w1 (walkD_at hx.dv walk_list fun H h => SqL.of (h _ _ ha))⟩)⟩
theorem si_tup (h : PE X e (SE me)) : PI X tg e (SI (iT me)) := ⟨fun pins s σ H R I q => (pi_tup h).run pins s σ H R I (by
  obtain ⟨T, G, env, s, ds, s', w, e, hm, k⟩ := q
  refine SE.seq w e (iT_inv hm) fun G1 H1 v x1 w1 eo1 dv1 => ?_
  obtain ⟨a, xs, rfl, ha, hx⟩ := dv1.tup_
  exact ⟨a, rfl, ⟨xs, SqT.of (w1.sub _ _ ha)⟩, k G1 H1 _ x1 w1 (walkD_at hx.dv walk_tup fun H h => SqT.of (h _ _ ha))⟩)⟩
theorem si_str (h : PE X e (SE me)) : PI X tg e (SI (iS me)) := ⟨fun pins s σ H R I q => (pi_str h).run pins s σ H R I (by
  obtain ⟨T, G, env, s, ds, s', w, e, hm, k⟩ := q
  unfold iS at hm
  split at hm
  · rename_i x s1 h1
    cases hm
    refine SE.seq w e h1 fun G1 H1 v x1 w1 eo1 dv1 => ⟨x, dv1.str_, k G1 H1 _ x1 w1 ?_⟩
    unfold WalkD
    rw [List.length_map, Array.length_toList]
    refine walk_str.mono (fun _ _ => True.intro) fun i H v H' hi _ y => ?_
    obtain ⟨rfl, c, hc, rfl⟩ := y
    intro G2 s2 sg w2
    refine ⟨G2, .str ⟨#[c]⟩, ?_, .refl, w2, .inl (.str _)⟩
    rw [List.getElem?_map, Array.getElem?_toList, hc] <;> rfl
  · cases hm)⟩
/-- the turns of a range -/
def rngL (lo : Int) : Nat → List Dt
  | 0 => []
  | n + 1 => .int lo :: rngL (lo + 1) n
theorem rngL_length : ∀ (n : Nat) (lo : Int), (rngL lo n).length = n
  | 0, _ => rfl
  | n + 1, lo => by rw [rngL, List.length_cons, rngL_length n]
theorem rngL_get : ∀ (n : Nat) (lo : Int) (i : Nat), i < n → (rngL lo n)[i]? = some (.int (lo + i))
  | 0, _, _, h => by omega
  | n + 1, lo, 0, _ => by simp [rngL]
  | n + 1, lo, i + 1, h => by
    rw [rngL, List.getElem?_cons_succ, rngL_get n (lo + 1) i (by omega)]
    congr 2
    omega
def smallI (i : Int) : Prop := -(2 ^ 62) ≤ i ∧ i < 2 ^ 62
instance (i : Int) : Decidable (smallI i) := by unfold smallI; infer_instance
def iRng1 (a : mA) : mA := fun env s => match a env s with
  | some ([.int j], s1) => if smallI j then some (rngL 0 j.toNat, s1) else none
  | _ => none
def iRng2 (a : mA) : mA := fun env s => match a env s with
  | some ([.int i, .int j], s1) => if smallI i ∧ smallI j then some (rngL i (j - i).toNat, s1) else none
  | _ => none
/-- range(0, j, 2) -/
def twoL (lo : Int) : Nat → List Dt
  | 0 => []
  | n + 1 => .int lo :: twoL (lo + 2) n
theorem twoL_length : ∀ (n : Nat) (lo : Int), (twoL lo n).length = n
  | 0, _ => rfl
  | n + 1, lo => by rw [twoL, List.length_cons, twoL_length n]
theorem twoL_get : ∀ (n : Nat) (lo : Int) (i : Nat), i < n → (twoL lo n)[i]? = some (.int (lo + i * 2))
  | 0, _, _, h => by omega
  | n + 1, lo, 0, _ => by simp [twoL]
  | n + 1, lo, i + 1, h => by
    rw [twoL, List.getElem?_cons_succ, twoL_get n (lo + 2) i (by omega)]
    congr 2
    omega
def iRng3 (a : mA) : mA := fun env s => match a env s with
  | some ([.int i, .int j, .int c], s1) => if i = 0 ∧ c = 2 ∧ 0 ≤ j ∧ j < 2 ^ 60 then some (twoL 0 ((j.toNat + 1) / 2), s1) else none
  | _ => none
theorem walkD_rng {T : Tm} {G : Hp} {lo : Int} {n : Nat} : WalkD T G (Itr lo n) (rngL lo n) := by
  unfold WalkD
  rw [rngL_length]
  refine walk_range.mono (fun _ _ => True.intro) fun i H v H' hi _ y => ?_
  obtain ⟨rfl, rfl⟩ := y
  intro G2 s2 sg w2
  exact ⟨G2, _, rngL_get n lo i hi, .refl, w2, .inl (.int _)⟩
theorem walkD_two {T : Tm} {G : Hp} {lo : Int} {n : Nat} : WalkD T G (Itc lo 2 n) (twoL lo n) := by
  unfold WalkD
  rw [twoL_length]
  refine walk_rangeC.mono (fun _ _ => True.intro) fun i H v H' hi _ y => ?_
  obtain ⟨rfl, rfl⟩ := y
  intro G2 s2 sg w2
  exact ⟨G2, _, twoL_get n lo i hi, .refl, w2, .inl (.int _)⟩
theorem rg_two {j : Int} (h : 0 ≤ j) (h2 : j < 2 ^ 60) : RgC 0 j 2 ((j.toNat + 1) / 2) := by
  have hs : Builtin.Range.rangeSize 0 j 2 = ((j.toNat + 1) / 2 : Nat) := by
    unfold Builtin.Range.rangeSize
    rw [if_pos (by decide)]
    split <;> omega
  refine ⟨by decide, by decide, ?_, hs⟩
  unfold Builtin.Range.small
  rw [hs]
  simp only [Builtin.Range.rangeFitsLong, Bool.and_eq_true, Bool.or_eq_true, decide_eq_true_eq, beq_iff_eq, show (2 : Int) > 0 by decide, if_true]
  omega
theorem si_rng1 {a : Expr} {p pos : Pos} (hm : X.mg "range" = none) (ha : PA X [a] (SA ms)) (hg : Gl X "range" := by rfl) (hs : starEach [a] X.env = [(false, eval a X.env)] := by rfl) : PI X tg (.Call (.Name "range" p) [a] [] pos) (SI (iRng1 ms)) :=
  ⟨fun pins s σ H R I q => (pi_range1 hg hm ha hs).run pins s σ H R I (by
    obtain ⟨T, G, env, s, ds, s', w, e, hm, k⟩ := q
    unfold iRng1 at hm
    split at hm
    · rename_i j s1 h1
      split at hm
      · rename_i hj
        cases hm
        refine SA.seq w e h1 fun G1 H1 v x1 w1 eo1 dv1 => ?_
        cases dv1 with
        | cons p q =>
          cases q
          exact ⟨j, by rw [p.int_], hj.1, hj.2, k G1 H1 _ x1 w1 walkD_rng⟩
      · cases hm
    · cases hm)⟩
theorem si_rng2 {a b : Expr} {p pos : Pos} (hm : X.mg "range" = none) (ha : PA X [a, b] (SA ms)) (hg : Gl X "range" := by rfl) (hs : starEach [a, b] X.env = [(false, eval a X.env), (false, eval b X.env)] := by rfl) (hs2 : starEach [b] X.env = [(false, eval b X.env)] := by rfl) :
    PI X tg (.Call (.Name "range" p) [a, b] [] pos) (SI (iRng2 ms)) :=
  ⟨fun pins s σ H R I q => (pi_range2 hg hm ha hs hs2).run pins s σ H R I (by
    obtain ⟨T, G, env, s, ds, s', w, e, hm, k⟩ := q
    unfold iRng2 at hm
    split at hm
    · rename_i i j s1 h1
      split at hm
      · rename_i hj
        cases hm
        refine SA.seq w e h1 fun G1 H1 v x1 w1 eo1 dv1 => ?_
        cases dv1 with
        | cons p q =>
          cases q with
          | cons p' q' =>
            cases q'
            exact ⟨i, j, by rw [p.int_, p'.int_], ⟨hj.1.1, hj.1.2, hj.2.1, hj.2.2⟩, k G1 H1 _ x1 w1 walkD_rng⟩
      · cases hm
    · cases hm)⟩
theorem si_rng3 {a b c : Expr} {p pos : Pos} (hm : X.mg "range" = none) (ha : PA X [a, b, c] (SA ms)) (hg : Gl X "range" := by rfl) (hs : starEach [a, b, c] X.env = (false, eval a X.env) :: starEach [b, c] X.env := by rfl)
    (hpl : (backTo pos (starEach [b, c] X.env)).any (·.1) = false := by rfl) : PI X tg (.Call (.Name "range" p) [a, b, c] [] pos) (SI (iRng3 ms)) :=
  ⟨fun pins s σ H R I q => (pi_range3 hg hm ha hs hpl).run pins s σ H R I (by
    obtain ⟨T, G, env, s, ds, s', w, e, hm, k⟩ := q
    unfold iRng3 at hm
    split at hm
    · rename_i i j c s1 h1
      split at hm
      · rename_i hj
        obtain ⟨rfl, rfl, h3, h4⟩ := hj
        cases hm
        refine SA.seq w e h1 fun G1 H1 v x1 w1 eo1 dv1 => ?_
        cases dv1 with
        | cons p q =>
          cases q with
          | cons p' q' =>
            cases q' with
            | cons p3 q3 =>
              cases q3
              exact ⟨0, j, 2, _, by rw [p.int_, p'.int_, p3.int_], rg_two h3 h4, k G1 H1 _ x1 w1 walkD_two⟩
      · cases hm
    · cases hm)⟩
/-- pairs -/
def zipD : List Dt → List Dt → List Dt
  | a :: as, b :: bs => .tuple [a, b] :: zipD as bs
  | _, _ => []
theorem zipD_length : ∀ (xs ys : List Dt), (zipD xs ys).length = min xs.length ys.length
  | [], _ => by simp [zipD]
  | _ :: _, [] => by simp [zipD]
  | a :: as, b :: bs => by
    rw [zipD, List.length_cons, zipD_length as bs, List.length_cons, List.length_cons]
    omega
theorem zipD_get : ∀ (xs ys : List Dt) (i : Nat) (x y : Dt), xs[i]? = some x → ys[i]? = some y → (zipD xs ys)[i]? = some (.tuple [x, y])
  | [], _, _, _, _, h, _ => by simp at h
  | _ :: _, [], _, _, _, _, h => by simp at h
  | a :: as, b :: bs, 0, x, y, h1, h2 => by
    simp at h1 h2
    subst h1 h2
    rfl
  | a :: as, b :: bs, i + 1, x, y, h1, h2 => by
    rw [zipD, List.getElem?_cons_succ]
    exact zipD_get as bs i x y (by simpa using h1) (by simpa using h2)
def iEn (a : mA) : mA := fun env s => match a env s with
  | some ([.list ds], s1) => some (zipD (rngL 0 ds.length) ds, s1)
  | _ => none
def iZp (a : mA) : mA := fun env s => match a env s with
  | some ([.list ds, .list es], s1) => some (zipD ds es, s1)
  | some ([.tuple ds, .tuple es], s1) => some (zipD ds es, s1)
  | _ => none
theorem walkD_zip {T : Tm} {G : Hp} {K : PySem.W.Frag} {a b : Addr} {xs ys : List V} {ds es : List Dt} (ha : G a = some (.lst xs)) (hx : DqAll G xs ds) (hb : G b = some (.lst ys)) (hy : DqAll G ys es) : WalkD T G (Itz K a b) (zipD ds es) := by
  refine walkD_pair (walk_zip (xs := xs) (ys := ys) rfl) (by rw [zipD_length, hx.length, hy.length]) (fun H h => ⟨SqL.of (h _ _ ha), SqL.of (h _ _ hb)⟩) fun i x y h1 h2 => ?_
  obtain ⟨d, e1, d1⟩ := hx.got h1
  obtain ⟨e, e2, d2⟩ := hy.got h2
  exact ⟨d, e, zipD_get _ _ _ _ _ e1 e2, d1, d2⟩
theorem walk_zipT {K : PySem.W.Frag} {a b : Addr} {xs ys : List V} : Walk (RZ.ItzT K a b) (min xs.length ys.length) (fun H => SqT K H a xs ∧ SqT K H b ys) (YPair (fun i => xs[i]?) (fun i => ys[i]?)) := by
  refine ⟨fun i _ hi q => ?_, fun _ q => ⟨xs, ys, q.1, q.2, by omega⟩, fun i H v H' _ q y => ?_⟩
  · have g1 : i < xs.length := by omega
    have g2 : i < ys.length := by omega
    exact ⟨xs, ys, _, _, q.1, q.2, List.getElem?_eq_getElem g1, List.getElem?_eq_getElem g2⟩
  · obtain ⟨p, x, z, y1, y2, y3, y4, y5⟩ := y
    exact ⟨p, x, z, y1, y2, y3, y4 xs q.1, y5 ys q.2⟩
theorem walkD_zipT {T : Tm} {G : Hp} {K : PySem.W.Frag} {a b : Addr} {xs ys : List V} {ds es : List Dt} (ha : G a = some (.tup xs)) (hx : DqAll G xs ds) (hb : G b = some (.tup ys)) (hy : DqAll G ys es) : WalkD T G (RZ.ItzT K a b) (zipD ds es) := by
  refine walkD_pair (walk_zipT (xs := xs) (ys := ys)) (by rw [zipD_length, hx.length, hy.length]) (fun H h => ⟨SqT.of (h _ _ ha), SqT.of (h _ _ hb)⟩) fun i x y h1 h2 => ?_
  obtain ⟨d, e1, d1⟩ := hx.got h1
  obtain ⟨e, e2, d2⟩ := hy.got h2
  exact ⟨d, e, zipD_get _ _ _ _ _ e1 e2, d1, d2⟩
theorem walkD_enum {T : Tm} {G : Hp} {K : PySem.W.Frag} {a : Addr} {xs : List V} {ds : List Dt} (ha : G a = some (.lst xs)) (hx : DqAll G xs ds) : WalkD T G (Ite K a) (zipD (rngL 0 ds.length) ds) := by
  refine walkD_pair (walk_enum (xs := xs)) (by rw [zipD_length, rngL_length, hx.length]; omega) (fun H h => SqL.of (h _ _ ha)) fun i x y h1 h2 => ?_
  obtain ⟨e, e2, d2⟩ := hx.got h2
  have hi : i < ds.length := (List.getElem?_eq_some_iff.mp e2).1
  cases h1
  refine ⟨.int (i : Nat), e, zipD_get _ _ _ _ _ ?_ e2, .int _, d2⟩
  rw [rngL_get _ _ _ hi, Int.zero_add]
theorem si_enum {a : Expr} {p pos tpos : Pos} {elts : List Expr} {kk : Nat} (hm : X.mg "enumerate" = none) (ha : PA X [a] (SA ms)) (hg : Gl X "enumerate" := by rfl) (hs : starEach [a] X.env = [(false, eval a X.env)] := by rfl) : PI X (.Tuple elts kk tpos) (.Call (.Name "enumerate" p) [a] [] pos) (SI (iEn ms)) :=
  ⟨fun pins s σ H R I q => (pi_enum hg hm ha hs).run pins s σ H R I (by
    obtain ⟨T, G, env, s, ds, s', w, e, hm, k⟩ := q
    unfold iEn at hm
    split at hm
    · rename_i ds1 s1 h1
      cases hm
      refine SA.seq w e h1 fun G1 H1 v x1 w1 eo1 dv1 => ?_
      cases dv1 with
      | cons p q =>
        cases q
        obtain ⟨a, xs, rfl, ha, hx⟩ := p.lst_
        exact ⟨a, xs, rfl, SqL.of (w1.sub _ _ ha), k G1 H1 _ x1 w1 (walkD_enum ha hx)⟩
    · cases hm)⟩
theorem si_zip {a b : Expr} {p pos tpos : Pos} {elts : List Expr} {kk : Nat} (hm : X.mg "zip" = none) (ha : PA X [a, b] (SA ms)) (hg : Gl X "zip" := by rfl) (hs : starEach [a, b] X.env = (false, eval a X.env) :: starEach [b] X.env := by rfl)
    (hpl : (backTo pos (starEach [b] X.env)).any (·.1) = false := by rfl) : PI X (.Tuple elts kk tpos) (.Call (.Name "zip" p) [a, b] [] pos) (SI (iZp ms)) :=
  ⟨fun pins s σ H R I q => (RZ.pi_zipA hg hm ha hs hpl).run pins s σ H R I (by
    obtain ⟨T, G, env, s, ds, s', w, e, hm, k⟩ := q
    unfold iZp at hm
    split at hm
    · rename_i ds1 es1 s1 h1
      cases hm
      refine SA.seq w e h1 fun G1 H1 v x1 w1 eo1 dv1 => ?_
      cases dv1 with
      | cons p q =>
        cases q with
        | cons p' q' =>
          cases q'
          obtain ⟨a, xs, rfl, ha, hx⟩ := p.lst_
          obtain ⟨b, ys, rfl, hb, hy⟩ := p'.lst_
          exact ⟨a, b, xs, ys, rfl, .inl ⟨SqL.of (w1.sub _ _ ha), SqL.of (w1.sub _ _ hb), k G1 H1 _ x1 w1 (walkD_zip ha hx hb hy)⟩⟩
    · rename_i ds1 es1 s1 h1
      cases hm
      refine SA.seq w e h1 fun G1 H1 v x1 w1 eo1 dv1 => ?_
      cases dv1 with
      | cons p q =>
        cases q with
        | cons p' q' =>
          cases q'
          obtain ⟨a, xs, rfl, ha, hx⟩ := p.tup_
          obtain ⟨b, ys, rfl, hb, hy⟩ := p'.tup_
          exact ⟨a, b, xs, ys, rfl, .inr ⟨SqT.of (w1.sub _ _ ha), SqT.of (w1.sub _ _ hb), k G1 H1 _ x1 w1 (walkD_zipT ha hx hb hy)⟩⟩
    · cases hm)⟩
end

/-! ### for -/
theorem drop_get {α : Type} {l : List α} {i : Nat} {x : α} (h : l[i]? = some x) : l.drop i = x :: l.drop (i + 1) := by
  obtain ⟨h1, h2⟩ := List.getElem?_eq_some_iff.mp h
  rw [List.drop_eq_getElem_cons h1, h2]
section
variable {X : Cx} {tg iter : Expr} {body : List Stmt} {mi : mA} {g : Dt → Ev → Option Ev} {ws : List Nat} {mb : mS} {pos : Pos}
theorem ss_for (hp : PassesOwn (model X.prog X.w) X.A X.env X.xe) (hc : X.calm = true) (hi : PI X tg iter (SI mi)) (hg : PG X tg (SG g ws)) (hb : PSs X body (SS mb)) (hs : ∀ x, foldedSetIterable iter X.env x = pure x := by intro _; rfl) :
    PS X (.For tg iter body [] pos) (SS (mFor mi g mb)) := sim_ps (ps_for hp hc hi hg hb hs) fun E σ H h => by
  obtain ⟨T, G, env, s, f, s', w, e, hm, k⟩ := h
  unfold mFor at hm
  split at hm
  · cases hm
  · rename_i ds s1 h1
    refine ⟨T, G, env, s, ds, s1, w, e, h1, fun G1 H1 J x1 w1 wk => ?_⟩
    refine for_it wk (fun i σ2 H2 => ∃ G2 env2 s2, Ext T G1 H1 G2 H2 ∧ Wd T s2 G2 H2 ∧ EnvOk T G2 σ2 env2 ∧ σ2.length = σ.length ∧ mForL g mb (ds.drop i) env2 s2 = some (f, s')) ⟨G1, env, s1, .refl, w1, e.mono x1.up, rfl, hm⟩
      (fun i σ2 H2 _ ⟨G2, _, _, x2, w2, _⟩ => x2.up.trans w2.sub) ?_ ?_
    · rintro i v σ2 H2 H3 hi2 ⟨G2, env2, s2, x2, w2, eo2, hl2, hm2⟩ y
      obtain ⟨G3, d, hd, x3, w3, dv⟩ := y G2 s2 x2.up w2
      rw [drop_get hd] at hm2
      unfold mForL at hm2
      have x13 := x2.trans w2 x3
      split at hm2
      · cases hm2
      · rename_i e4 he4
        refine ⟨T, G3, env2, s2, d, e4, w3, eo2.mono x3.up, dv, he4, fun σ4 eo4 hl4 _ => ?_⟩
        split at hm2
        · rename_i e5 s5 h5
          exact ⟨T, G3, e4, s2, .nx e5, s5, w3, eo4, h5, fun G5 H5 x5 w5 σ5 eo5 hl5 => ⟨G5, e5, s5, x13.trans w3 x5, w5, eo5, (hl5.trans hl4).trans hl2, hm2⟩⟩
        · rename_i e5 s5 h5
          exact ⟨T, G3, e4, s2, .ct e5, s5, w3, eo4, h5, fun G5 H5 x5 w5 σ5 eo5 hl5 => ⟨G5, e5, s5, x13.trans w3 x5, w5, eo5, (hl5.trans hl4).trans hl2, hm2⟩⟩
        · rename_i e5 s5 h5
          cases hm2
          exact ⟨T, G3, e4, s2, .bk e5, s', w3, eo4, h5, fun G5 H5 x5 w5 σ5 eo5 hl5 => k G5 H5 (x1.trans w1 (x13.trans w3 x5)) w5 σ5 eo5 ((hl5.trans hl4).trans hl2)⟩
        · rename_i d5 s5 h5
          cases hm2
          exact ⟨T, G3, e4, s2, .rt d5, s', w3, eo4, h5, fun G5 H5 x5 w5 => k G5 H5 (x1.trans w1 (x13.trans w3 x5)) w5⟩
        · cases hm2
    · rintro σ2 H2 ⟨G2, env2, s2, x2, w2, eo2, hl2, hm2⟩
      rw [List.drop_length] at hm2
      cases hm2
      exact k G2 H2 (x1.trans w1 x2) w2 σ2 eo2 hl2
end

/-! ### comprehensions -/
def wipeE (env : Ev) : List Nat → Ev
  | [] => env
  | v :: vs => (wipeE env vs).set v none
def mLcL (g : Dt → Ev → Option Ev) (vs : List Nat) (t : mE) : List Dt → mA
  | [] => fun _ s => some ([], s)
  | d :: ds => fun env s => match g d (wipeE env vs) with
    | none => none
    | some e => match t e s with
      | none => none
      | some (z, s1) => match mLcL g vs t ds env s1 with
        | none => none
        | some (zs, s2) => some (z :: zs, s2)
def mLc (i : mA) (g : Dt → Ev → Option Ev) (vs : List Nat) (t : mE) : mE := fun env s => match i env s with
  | none => none
  | some (ds, s1) => match mLcL g vs t ds env s1 with
    | none => none
    | some (zs, s2) => if zs.any isTin = true ∨ ¬ zs.length ≤ 16777216 then none else some (.list zs, s2)
theorem wipeE_length (env : Ev) : ∀ vs, (wipeE env vs).length = env.length
  | [] => rfl
  | v :: vs => by rw [wipeE, List.length_set, wipeE_length env vs]
theorem wipeE_ok {T : Tm} {G : Hp} {σ : L2.St} {env : Ev} (e : EnvOk T G σ env) : ∀ vs, EnvOk T G (wipe σ vs) (wipeE env vs)
  | [] => e
  | v :: vs => by
    have ih := wipeE_ok e vs
    refine ⟨by rw [wipeE_length, wipe_length]; exact e.len, fun i d h => ?_⟩
    have h : ((wipeE env vs).set v none)[i]? = some (some d) := h
    by_cases c : v = i
    · subst c
      by_cases l : v < (wipeE env vs).length
      · rw [List.getElem?_set_self l] at h
        cases h
      · rw [List.getElem?_eq_none (by rw [List.length_set]; omega)] at h
        cases h
    · rw [List.getElem?_set_ne c] at h
      obtain ⟨u, h1, h2⟩ := ih.at_ i d h
      refine ⟨u, ?_, h2⟩
      show ((wipe σ vs).set v none)[i]? = some (some u)
      rw [List.getElem?_set_ne c]
      exact h1
theorem wipe_get (σ : L2.St) : ∀ (vs : List Nat) (i : Nat), (wipe σ vs)[i]? = if i ∈ vs then (if i < σ.length then some none else none) else σ[i]?
  | [], i => by simp [wipe]
  | v :: vs, i => by
    show ((wipe σ vs).set v none)[i]? = _
    have ih := wipe_get σ vs i
    by_cases c : v = i
    · subst c
      rw [List.getElem?_set, if_pos rfl, wipe_length]
      simp
    · rw [List.getElem?_set_ne c, ih]
      have c' : ¬ i = v := fun z => c z.symm
      simp [c']
theorem wipe_same {σ σ2 : L2.St} {ws vs : List Nat} (hl : σ2.length = σ.length) (h : ∀ j : Nat, j ∉ ws → σ2[j]? = (wipe σ vs)[j]?) (hs : ∀ j ∈ ws, j ∈ vs) : wipe σ2 vs = wipe σ vs := by
  refine List.ext_getElem? fun i => ?_
  rw [wipe_get, wipe_get]
  by_cases c : i ∈ vs
  · rw [if_pos c, if_pos c, hl]
  · rw [if_neg c, if_neg c, h i fun z => c (hs i z), wipe_get, if_neg c]
section
variable {X : Cx} {elt tg iter : Expr} {scope : Scope} {own : List (Str × Nat)} {pos : Pos} {mi : mA} {g : Dt → Ev → Option Ev} {ws : List Nat} {me : mE}
theorem lc_sim {σ : L2.St} {H : Hp} {Q : VK} {vs : List Nat} (hws : ∀ j ∈ ws, j ∈ vs) (h : SE (mLc mi g vs me) σ H Q) : tLc (SI mi) (SG g ws) tYes (SE me) vs σ H Q := by
  obtain ⟨T, G, env, s, z, s', w, e, hm, k⟩ := h
  unfold mLc at hm
  split at hm
  · cases hm
  · rename_i ds s1 h1
    split at hm
    · cases hm
    · rename_i zs s2 h2
      split at hm
      · cases hm
      · rename_i c
        cases hm
        rw [not_or, Classical.not_not] at c
        refine ⟨T, G, env, s, ds, s1, w, e, h1, fun G1 H1 J x1 w1 wk D hD => ?_⟩
        have hG1 := w1.free hD
        have hT := w1.tne hD
        refine lc_it wk (fun i H2 => ∃ G2 s2' acc done rest, Ext T G1 H1 G2 H2 ∧ Wd T s2' G2 H2 ∧ H2 D = some (.lst acc) ∧ G2 D = none ∧ DqAll G2 acc done ∧ mLcL g vs me (ds.drop i) env s2' = some (rest, s') ∧ zs = done ++ rest) ?_ (fun i H2 _ ⟨G2, _, _, _, _, x2, w2, _⟩ => x2.up.trans w2.sub) ?_ ?_
        · refine ⟨G1, s1, [], [], zs, ⟨fun b o q _ => ?_, Same.refl _, fun _ _ _ n => n⟩, ⟨fun b o q => ?_, fun p hp => ?_⟩, upd_same, hG1, .nil, h2, rfl⟩
          · rw [upd_ne (ne_of_none q hD)]
            exact q
          · rw [upd_ne (ne_of_none q hG1)]
            exact w1.sub _ _ q
          · rw [upd_ne (show p ≠ D from fun z => hT (z ▸ hp))]
            exact w1.tin p hp
        · rintro i v H2 H3 hi ⟨G2, s3, acc, done, rest, x2, w2, hD2, hG2, hacc, hm2, hz⟩ y
          obtain ⟨G3, d, hd, x3, w3, dv⟩ := y G2 s3 x2.up w2
          rw [drop_get hd] at hm2
          unfold mLcL at hm2
          split at hm2
          · cases hm2
          · rename_i e4 he4
            split at hm2
            · cases hm2
            · rename_i z4 s4 h4
              split at hm2
              · cases hm2
              · rename_i zs5 s5 h5
                cases hm2
                have e2 : EnvOk T G3 (wipe σ vs) (wipeE env vs) := wipeE_ok (e.mono (x1.up.trans (x2.up.trans x3.up))) vs
                refine ⟨T, G3, wipeE env vs, s3, d, e4, w3, e2, dv, he4, fun σ4 eo4 hl4 ag4 => ⟨wipe_same (by rw [hl4, wipe_length]) ag4 hws, ?_⟩⟩
                show SE me σ4 H3 _
                have hD3 : H3 D = some (.lst acc) := x3.same D _ hD2 hT
                have hG3 : G3 D = none := x3.fresh D _ hD2 hG2
                refine SE.seq w3 eo4 h4 fun G5 H5 v5 x5 w5 eo5 dv5 => ?_
                have hD5 := x5.same D _ hD3 hT
                have hG5 := x5.fresh D _ hD3 hG3
                have hlen : done.length + (z4 :: zs5).length = zs.length := by rw [hz, List.length_append]
                rw [List.length_cons] at hlen
                have hl := hacc.length
                refine ⟨acc, hD5, by rw [sizeLine_is, hl]; omega, G5, s4, acc ++ [v5], done ++ [z4], zs5, ?_, ?_, upd_same, hG5, ?_, h5, by rw [hz, List.append_assoc]; rfl⟩
                · have x25 := x2.trans w2 (x3.trans w3 x5)
                  refine ⟨fun b o q n => ?_, x25.up, x25.fresh⟩
                  rw [upd_ne (ne_of_none q hD)]
                  exact x25.same b o q n
                · refine ⟨fun b o q => ?_, fun p hp => ?_⟩
                  · rw [upd_ne (ne_of_none q hG5)]
                    exact w5.sub _ _ q
                  · rw [upd_ne (show p ≠ D from fun z => hT (z ▸ hp))]
                    exact w5.tin p hp
                · refine DqAll.append (DqAll.mono (x3.up.trans x5.up) _ _ hacc) (.cons (dv5.dq (noTin c.1 z4 ?_)) .nil)
                  rw [hz]
                  exact List.mem_append_right _ List.mem_cons_self
        · rintro H2 ⟨G2, s3, acc, done, rest, x2, w2, hD2, hG2, hacc, hm2, hz⟩
          rw [List.drop_length] at hm2
          cases hm2
          rw [List.append_nil] at hz
          subst hz
          have sg := same_upd (.lst acc) hG2
          have xx := x1.trans w1 ⟨x2.same, x2.up.trans sg, fun b o q n => by rw [upd_ne (ne_of_none q hD)]; exact x2.fresh b o q n⟩
          refine k (upd G2 D (.lst acc)) H2 (.ref D) xx ⟨fun b o q => ?_, fun p hp => ?_⟩ (.inl (.lst upd_same (DqAll.mono sg _ _ hacc)))
          · by_cases c : b = D
            · subst c
              rw [upd_same] at q
              rw [← q]
              exact hD2
            · rw [upd_ne c] at q
              exact w2.sub _ _ q
          · rw [upd_ne (show p ≠ D from fun z => hT (z ▸ hp))]
            exact w2.tin p hp
theorem se_lc (hN : X.N.Nodup) (hi : PI X tg iter (SI mi)) (ok : BlkOk X.N X.env.scope scope own) (hg : ∀ (s : Shared) (H : Hp) (C : Addr) (cl : List (Str × Addr)) (fp : List Addr), PG (X.blk s H scope (compEnvC scope cl C X.env) fp) tg (SG g ws))
    (he : ∀ (s : Shared) (H : Hp) (C : Addr) (cl : List (Str × Addr)) (fp : List Addr), PE (X.blk s H scope (compEnvC scope cl C X.env) fp) elt (SE me)) (hws : ∀ j ∈ ws, j ∈ own.map (·.2) := by decide) (hc : X.calm = true := by rfl)
    (hs : ∀ x, foldedSetIterable iter X.env x = pure x := by intro _; rfl) : PE X (.ListComp elt [⟨tg, iter, [], 0⟩] scope pos) (SE (mLc mi g (own.map (·.2)) me)) :=
  sim_pe (pe_lc hc hN hi ok hg (fun _ _ _ _ _ => pts_nil) he hs) fun σ H Q h => lc_sim hws h
/-- y = [..], y a local -/
theorem ss_setLc (i : Nat) {y : Str} {py spos : Pos} (hN : X.N.Nodup) (hi : PI X tg iter (SI mi)) (ok : BlkOk X.N X.env.scope scope own) (hg : ∀ (s : Shared) (H : Hp) (C : Addr) (cl : List (Str × Addr)) (fp : List Addr), PG (X.blk s H scope (compEnvC scope cl C X.env) fp) tg (SG g ws))
    (he : ∀ (s : Shared) (H : Hp) (C : Addr) (cl : List (Str × Addr)) (fp : List Addr), PE (X.blk s H scope (compEnvC scope cl C X.env) fp) elt (SE me)) (hws : ∀ j ∈ ws, j ∈ own.map (·.2) := by decide) (hc : X.calm = true := by rfl) (hy : X.N[i]? = some y := by rfl) (hyl : X.env.scope.names.lookup y = some .local := by rfl)
    (hsw : swapsWith (.ListComp elt [⟨tg, iter, [], 0⟩] scope pos) (some (.Name y py)) spos.line X.env = pure true := by exact sw_true rfl rfl rfl (by decide +kernel)) (hs : ∀ x, foldedSetIterable iter X.env x = pure x := by intro _; rfl) :
    PS X (.Assign [.Name y py] (.ListComp elt [⟨tg, iter, [], 0⟩] scope pos) spos) (SS (mAsg (mLc mi g (own.map (·.2)) me) (aName i))) :=
  sim_ps (ps_setLc hc hN hy hyl hsw hi ok hg (fun _ _ _ _ _ => pts_nil) he hs) fun E σ H h => by
    obtain ⟨T, G, env, s, f, s', w, e, hm, k⟩ := h
    obtain ⟨d, e1, h1, h2, rfl⟩ := mAsg_inv hm
    cases h2
    exact lc_sim hws (SE.seq w e h1 fun G1 H1 v x1 w1 eo1 dv1 => k G1 H1 x1 w1 _ (eo1.set i dv1) (List.length_set ..))
end

/-! ### defs -/
abbrev Mf := List Dt → Tn → Option (Dt × Tn)
def initE (n : Nat) (ds : List Dt) : Ev := ds.map some ++ List.replicate (n - ds.length) none
def mFn (n k : Nat) (b : mS) : Mf := fun ds s => if ds.length = k then match b (initE n ds) s with
    | some (.rt d, s1) => some (d, s1)
    | some (.nx _, s1) => some (.none, s1)
    | _ => none
  else none
def spM (k : Nat) (f : Mf) : Sp := fun vs H Q _ => ∃ T G ds s d s', Wd T s G H ∧ DvAll T G vs ds ∧ vs.length = k ∧ f ds s = some (d, s') ∧ Th T s' G H d Q
def mCall (f : Mf) (a : mA) : mE := fun env s => match a env s with
  | none => none
  | some (ds, s1) => f ds s1
theorem envStart {T : Tm} {G : Hp} {N : List Str} {vs : List V} {ds : List Dt} (h : DvAll T G vs ds) : EnvOk T G (L2.start N vs) (initE N.length ds) := by
  have hl := h.len
  refine ⟨by unfold initE L2.start; rw [List.length_append, List.length_append, List.length_map, List.length_map, List.length_replicate, List.length_replicate, hl], fun i d q => ?_⟩
  unfold initE at q
  by_cases c : i < ds.length
  · rw [List.getElem?_append_left (by rw [List.length_map]; exact c), List.getElem?_map] at q
    cases z : ds[i]? with
    | none =>
      rw [z] at q
      cases q
    | some d' =>
      rw [z] at q
      cases q
      have ex : ∃ v, vs[i]? = some v ∧ Dv T G v d := by
        clear c hl
        revert i
        induction h with
        | nil => intro i z; simp at z
        | @cons a b xs ys p t ih =>
          intro i z
          cases i with
          | zero =>
            simp at z
            subst z
            exact ⟨a, rfl, p⟩
          | succ i =>
            obtain ⟨v, h1, h2⟩ := ih i (by simpa using z)
            exact ⟨v, by simpa using h1, h2⟩
      obtain ⟨v, h1, h2⟩ := ex
      refine ⟨v, ?_, h2⟩
      unfold L2.start
      rw [List.getElem?_append_left (by rw [List.length_map]; omega), List.getElem?_map, h1] <;> rfl
  · rw [List.getElem?_append_right (by rw [List.length_map]; omega), List.getElem?_replicate] at q
    split at q <;> cases q
section
variable {P : Program} {w : World} {K : PySem.W.Frag} {mg : Str → Option Value} {base : Heap}
theorem fn_sim {x qual : Str} {st : Stmt} {f : Addr} {fd : FuncData} {N ps : List Str} {k : Nat} {mb : mS} (F : Fun K x qual st f fd) (S : FnScope N ps (defScope st))
    (hbody : ∀ (cdv : Value) (A : Around) (outer : List Env) (s : Shared) (H : Hp) (E : XK), Room k (A.deeper (envOfC qual (defScope st) s.heap.objs.size f cdv)) → PSs (cxOf CX0 P w K mg base N qual (defScope st) f cdv A outer s H E).nox (defBody st) (SS mb)) :
    FnOk P w K mg base CX0 (k + 1) f fd ps (spM ps.length (mFn N.length ps.length mb)) := by
  refine F.ok S (fun vs H Q E h => ?_) (fun cdv A outer s H vs Q E hr h => ⟨SS mb, hbody cdv A outer s H E hr, ?_⟩)
  · obtain ⟨T, G, ds, s, d, s', w, dv, hl, _⟩ := h
    exact hl
  · obtain ⟨T, G, ds, s, d, s', w, dv, hl, hm, k⟩ := h
    unfold mFn at hm
    rw [if_pos (dv.len.symm.trans hl)] at hm
    split at hm
    · rename_i d1 s1 h1
      cases hm
      exact ⟨T, G, _, s, .rt d, s', w, envStart dv, h1, fun G1 H1 x1 w1 v dv1 => k G1 H1 v x1 w1 dv1⟩
    · rename_i e1 s1 h1
      cases hm
      exact ⟨T, G, _, s, .nx e1, s', w, envStart dv, h1, fun G1 H1 x1 w1 σ1 eo1 hl1 => k G1 H1 .non x1 w1 (.inl .non)⟩
    · cases hm
end
theorem mFn_len {n k : Nat} {b : mS} {ds : List Dt} {s : Tn} {r : Dt × Tn} (h : mFn n k b ds s = some r) : ds.length = k := by
  unfold mFn at h
  split at h
  · assumption
  · cases h
section
variable {X : Cx} {e : Expr} {es : List Expr} {ms : mA} {pos : Pos}
theorem se_call {x : Str} {p : Pos} {CX : CXT} {k n : Nat} {f : Addr} {fd : FuncData} {ps : List Str} {mf : Mf} {E : XK} (F : FnOk X.prog X.w X.K X.mg X.base CX k f fd ps (spM n mf)) (hr : Room k X.A) (hm : X.mg x = some (.ref f)) (hk : PySem.W.keepIn X.K (.ref f) = true)
    (hb : Binds X.K fd ps []) (hx : Passes CX X E) (hf : ∀ ds s r, mf ds s = some r → ds.length = n) (ha : PA X (e :: es) (SA ms)) (hg : Gl X x := by rfl) (hdb : (x == ("__debug__" : Str)) = false := by decide)
    (he : starEach (e :: es) X.env = (false, eval e X.env) :: starEach es X.env := by rfl) (hpl : (backTo pos (starEach es X.env)).any (·.1) = false := by rfl) : PE X (.Call (.Name x p) (e :: es) [] pos) (SE (mCall mf ms)) :=
  sim_pe (pe_call F hr hg hm hk hb .nil hx ha hdb he hpl) fun σ H Q h => by
    obtain ⟨T, G, env, s, z, s2, w, e, hm, k⟩ := h
    unfold mCall at hm
    split at hm
    · cases hm
    · rename_i ds s1 h1
      refine SA.seq w e h1 fun G1 H1 v x1 w1 e1 dv1 => ?_
      rw [List.append_nil]
      exact ⟨T, G1, ds, s1, z, s2, w1, dv1, by rw [dv1.len]; exact hf _ _ _ hm, hm, fun G3 H3 v x3 w3 dv3 => k G3 H3 v (x1.trans w1 x3) w3 dv3⟩
theorem se_call0 {x : Str} {p : Pos} {CX : CXT} {k : Nat} {f : Addr} {fd : FuncData} {ps : List Str} {mf : Mf} {E : XK} (F : FnOk X.prog X.w X.K X.mg X.base CX k f fd ps (spM 0 mf)) (hr : Room k X.A) (hm : X.mg x = some (.ref f)) (hk : PySem.W.keepIn X.K (.ref f) = true)
    (hb : Binds X.K fd ps []) (hx : Passes CX X E) (hg : Gl X x := by rfl) (hdb : (x == ("__debug__" : Str)) = false := by decide) : PE X (.Call (.Name x p) [] [] pos) (SE (mCall mf mNil)) :=
  sim_pe (pe_call0 F hr hg hm hk hb .nil hx hdb) fun σ H Q h => by
    obtain ⟨T, G, env, s, z, s2, w, e, hm, k⟩ := h
    exact ⟨T, G, [], s, z, s2, w, .nil, rfl, hm, k⟩
end
end Md
-- Md2
set_option Elab.async false
set_option linter.all false
set_option maxRecDepth 100000
set_option maxHeartbeats 2000000
/-! Operators, subscripts, built-ins and methods by their data. -/
namespace Md
open PySem PySem.Spec PyProof.Rows L2
set_option autoImplicit false

abbrev line : Nat := 16777216
theorem Th.now {T : Tm} {s : Tn} {G H : Hp} {d : Dt} {Q : VK} {v : V} (k : Th T s G H d Q) (w : Wd T s G H) (h : Dv T G v d) : Q v H := k G H v .refl w h
theorem Th.new {T : Tm} {s : Tn} {G H : Hp} {ds : List Dt} {Q : VK} {xs : List V} {p : Addr} (k : Th T s G H (.list ds) Q) (w : Wd T s G H) (hp : H p = none) (h : DqAll G xs ds) : Q (.ref p) (upd H p (.lst xs)) :=
  k _ _ _ (.alloc w _ hp) (w.alloc _ hp) (.inl (.lst upd_same (DqAll.mono (same_upd _ (w.free hp)) _ _ h)))
theorem Th.newT {T : Tm} {s : Tn} {G H : Hp} {ds : List Dt} {Q : VK} {xs : List V} {p : Addr} (k : Th T s G H (.tuple ds) Q) (w : Wd T s G H) (hp : H p = none) (h : DqAll G xs ds) : Q (.ref p) (upd H p (.tup xs)) :=
  k _ _ _ (.alloc w _ hp) (w.alloc _ hp) (.inl (.tup upd_same (DqAll.mono (same_upd _ (w.free hp)) _ _ h)))

/-! ### arithmetic -/
def dAdd : Dt → Dt → Option Dt
  | .int i, .int j => some (.int (i + j))
  | .str x, .str y => if x.length + y.length ≤ line then some (.str (x ++ y)) else none
  | .list xs, .list ys => if xs.length + ys.length ≤ line then some (.list (xs ++ ys)) else none
  | .tuple xs, .tuple ys => if xs.length + ys.length ≤ line then some (.tuple (xs ++ ys)) else none
  | _, _ => none
def dSub : Dt → Dt → Option Dt
  | .int i, .int j => some (.int (i - j))
  | _, _ => none
def big (i : Int) : Prop := -(2 ^ 64) < i ∧ i < 2 ^ 64
instance (i : Int) : Decidable (big i) := by unfold big; infer_instance
def dMul : Dt → Dt → Option Dt
  | .int i, .int j => if big i ∨ big j then some (.int (i * j)) else none
  | _, _ => none
/-- a text of few signs, so many times -/
def dRep : Dt → Dt → Option Dt
  | .str x, .int n => if x.length ≤ 16 ∧ 0 ≤ n ∧ n ≤ 1000 then some (.str (Txt.mul x n)) else none
  | _, _ => none
def dMod : Dt → Dt → Option Dt
  | .int i, .int j => if 0 < j then some (.int (i % j)) else none
  | _, _ => none
def dDiv : Dt → Dt → Option Dt
  | .int i, .int j => if 0 < j ∧ j < 1073741824 then some (.int (i / j)) else none
  | _, _ => none
def dNeg : Dt → Option Dt
  | .int i => some (.int (-i))
  | _ => none
section
variable {X : Cx}
theorem op_addD : OpR X (binaryOp .Add) (r2 dAdd) := by
  intro pins s σ H x y v u Q I rx ry h
  obtain ⟨T, G, d, e, z, st, w, dx, dy, hf, k⟩ := h
  unfold dAdd at hf
  split at hf
  · rename_i i j
    cases hf
    exact op_add pins s σ H x y v u Q I rx ry ⟨i, j, dx.int_, dy.int_, k.now w (.inl (.int _))⟩
  · rename_i i j
    split at hf
    · rename_i hl
      cases hf
      exact op_add_str pins s σ H x y v u Q I rx ry ⟨i, j, dx.str_, dy.str_, by rw [sizeLine_is]; exact hl, k.now w (.inl (.str _))⟩
    · cases hf
  · rename_i xs ys
    split at hf
    · rename_i hl
      cases hf
      obtain ⟨a, us, rfl, ha, hx⟩ := dx.lst_
      obtain ⟨b, ws, rfl, hb, hy⟩ := dy.lst_
      exact op_cat pins s σ H _ _ v u Q I rx ry ⟨a, b, us, ws, rfl, rfl, w.sub _ _ ha, w.sub _ _ hb, by rw [sizeLine_is, hx.length, hy.length]; exact hl, fun p hp => k.new w hp (hx.append hy)⟩
    · cases hf
  · rename_i xs ys
    split at hf
    · rename_i hl
      cases hf
      obtain ⟨a, us, rfl, ha, hx⟩ := dx.tup_
      obtain ⟨b, ws, rfl, hb, hy⟩ := dy.tup_
      refine op_catA pins s σ H _ _ v u Q I rx ry ⟨a, b, us, ws, rfl, rfl, SqT.of (w.sub _ _ ha), SqT.of (w.sub _ _ hb), by rw [sizeLine_is, hx.length, hy.length]; exact hl, fun e => ?_, fun _ e => ?_, fun _ _ p hp => k.newT w hp (hx.append hy)⟩
      · subst e
        cases hx
        exact k.now w (.inl (.tup hb hy))
      · subst e
        cases hy
        rw [List.append_nil] at k
        exact k.now w (.inl (.tup ha hx))
    · cases hf
  · cases hf
theorem op_subD : OpR X (binaryOp .Sub) (r2 dSub) := by
  intro pins s σ H x y v u Q I rx ry h
  obtain ⟨T, G, d, e, z, st, w, dx, dy, hf, k⟩ := h
  unfold dSub at hf
  split at hf
  · rename_i i j
    cases hf
    exact op_sub pins s σ H x y v u Q I rx ry ⟨i, j, dx.int_, dy.int_, k.now w (.inl (.int _))⟩
  · cases hf
theorem op_mulD : OpR X (binaryOp .Mult) (r2 dMul) := by
  intro pins s σ H x y v u Q I rx ry h
  obtain ⟨T, G, d, e, z, st, w, dx, dy, hf, k⟩ := h
  unfold dMul at hf
  split at hf
  · rename_i i j
    split at hf
    · rename_i hc
      cases hf
      exact op_mul pins s σ H x y v u Q I rx ry ⟨i, j, dx.int_, dy.int_, hc, k.now w (.inl (.int _))⟩
    · cases hf
  · cases hf
theorem op_repD : OpR X (binaryOp .Mult) (r2 dRep) := by
  intro pins s σ H x y v u Q I rx ry h
  obtain ⟨T, G, d, e, z, st, w, dx, dy, hf, k⟩ := h
  unfold dRep at hf
  split at hf
  · rename_i i j
    split at hf
    · rename_i hc
      cases hf
      obtain ⟨h1, h2, h3⟩ := hc
      cases dx.str_
      cases dy.int_
      obtain ⟨t, rfl⟩ := rx
      obtain ⟨t', rfl⟩ := ry
      exact SB.mul (mulOk_of 16 1048576 h1 (by omega) (by omega) (by decide) (by decide)) fun t2 k2 => ⟨.str _, H, I.tok _, ⟨_, rfl⟩, k.now w (.inl (.str _))⟩
    · cases hf
  · cases hf
theorem op_modD : OpR X (binaryOp .Mod) (r2 dMod) := by
  intro pins s σ H x y v u Q I rx ry h
  obtain ⟨T, G, d, e, z, st, w, dx, dy, hf, k⟩ := h
  unfold dMod at hf
  split at hf
  · rename_i i j
    split at hf
    · rename_i hc
      cases hf
      exact op_mod pins s σ H x y v u Q I rx ry ⟨i, j, dx.int_, dy.int_, hc, k.now w (.inl (.int _))⟩
    · cases hf
  · cases hf
theorem op_divD : OpR X (binaryOp .FloorDiv) (r2 dDiv) := by
  intro pins s σ H x y v u Q I rx ry h
  obtain ⟨T, G, d, e, z, st, w, dx, dy, hf, k⟩ := h
  unfold dDiv at hf
  split at hf
  · rename_i i j
    split at hf
    · rename_i hc
      cases hf
      exact op_fdiv pins s σ H x y v u Q I rx ry ⟨i, j, dx.int_, dy.int_, hc, k.now w (.inl (.int _))⟩
    · cases hf
  · cases hf
theorem un_negD : UnR X (unaryOp .USub) (r1 dNeg) := by
  intro pins s σ H x v Q I rx h
  obtain ⟨T, G, d, z, st, w, dx, hf, k⟩ := h
  unfold dNeg at hf
  split at hf
  · rename_i i
    cases hf
    exact un_neg pins s σ H x v Q I rx ⟨i, dx.int_, k.now w (.inl (.int _))⟩
  · cases hf
end

/-! ### comparisons -/
def dLt : Dt → Dt → Option Dt
  | .int i, .int j => some (.bool (decide (i < j)))
  | .tuple xs, .tuple ys => if PySem.W.alikeAll xs ys = true ∧ PyData.depthAll xs ≤ 20 then some (.bool (PySem.W.dataLt (.tuple xs) (.tuple ys))) else none
  | _, _ => none
def dLe : Dt → Dt → Option Dt
  | .int i, .int j => some (.bool (decide (i ≤ j)))
  | _, _ => none
def dGt : Dt → Dt → Option Dt
  | .int i, .int j => some (.bool (decide (j < i)))
  | _, _ => none
def dGe : Dt → Dt → Option Dt
  | .int i, .int j => some (.bool (decide (j ≤ i)))
  | _, _ => none
def dEq : Dt → Dt → Option Dt
  | .int i, .int j => some (.bool (decide (i = j)))
  | .str i, .str j => some (.bool (decide (i = j)))
  | .bool i, .bool j => some (.bool (decide (i = j)))
  | .list xs, .list [] => some (.bool xs.isEmpty)
  | d, e => if SeqAt.shaped d = true ∧ SeqAt.shaped e = true then some (.bool (PyData.eqv d e)) else none
def dNe : Dt → Dt → Option Dt
  | .int i, .int j => some (.bool (!decide (i = j)))
  | .str i, .str j => some (.bool (!decide (i = j)))
  | .bool i, .bool j => some (.bool (!decide (i = j)))
  | d, e => if SeqAt.shaped d = true ∧ SeqAt.shaped e = true then some (.bool (!PyData.eqv d e)) else none
def isNon : Dt → Bool
  | .none => true
  | _ => false
def dIsN : Dt → Dt → Option Dt
  | d, .none => if isTin d = true then none else some (.bool (isNon d))
  | _, _ => none
def dNotN : Dt → Dt → Option Dt
  | d, .none => if isTin d = true then none else some (.bool (!isNon d))
  | _, _ => none
/-- one sign in a text; a flat thing in a list or tuple of flat things -/
def flatD : Dt → Bool
  | .none => true
  | .int _ => true
  | .bool _ => true
  | .str _ => true
  | _ => false
def signOf (x : Str) : Option Nat := if x.length = 1 then x.cps[0]? else none
def dIn : Dt → Dt → Option Dt
  | .str x, .str y => match signOf x with
    | some c => some (.bool (decide (c ∈ y.cps.toList)))
    | none => none
  | d, .list xs => if flatD d = true ∧ xs.all flatD = true then some (.bool (xs.any fun y => PyData.eqv y d)) else none
  | d, .tuple xs => if flatD d = true ∧ xs.all flatD = true then some (.bool (xs.any fun y => PyData.eqv y d)) else none
  | _, _ => none
def dNotIn (d e : Dt) : Option Dt := match dIn d e with
  | some (.bool b) => some (.bool (!b))
  | _ => none
theorem signOf_some {x : Str} {c : Nat} (h : signOf x = some c) : x = ⟨#[c]⟩ := by
  unfold signOf at h
  split at h
  · rename_i hl
    obtain ⟨a⟩ := x
    have hl : a.size = 1 := hl
    have h : a[0]? = some c := h
    congr 1
    apply Array.ext
    · rw [hl] <;> rfl
    · intro i h1 h2
      have h2 : i < 1 := h2
      have e : i = 0 := by omega
      subst e
      rw [Array.getElem?_eq_getElem h1] at h
      exact Option.some.inj h
  · cases h
theorem dv_non_iff {T : Tm} {G : Hp} {v : V} {d : Dt} (h : Dv T G v d) (ht : ¬ isTin d = true) : decide (v = .non) = isNon d := by
  cases d with
  | none =>
    cases h.non_
    rfl
  | bool b =>
    cases h.bl_
    rfl
  | int i =>
    cases h.int_
    rfl
  | str x =>
    cases h.str_
    rfl
  | list ds =>
    obtain ⟨a, xs, rfl, _⟩ := h.lst_
    rfl
  | tuple ds =>
    obtain ⟨a, xs, rfl, _⟩ := h.tup_
    rfl
  | dict _ => exact absurd rfl ht
theorem flat_of {T : Tm} {G : Hp} {v : V} {d : Dt} (h : Dv T G v d) (hf : flatD d = true) : flatV v = true := by
  cases d with
  | none =>
    cases h.non_
    rfl
  | bool b =>
    cases h.bl_
    rfl
  | int i =>
    cases h.int_
    rfl
  | str x =>
    cases h.str_
    rfl
  | _ => cases hf
theorem eqV_of {T : Tm} {G : Hp} {v u : V} {d e : Dt} (h : Dv T G v d) (h' : Dv T G u e) (hf : flatD d = true) (hf' : flatD e = true) : eqV v u = PyData.eqv d e := by
  cases d <;> first | (cases hf; done) | skip
  all_goals cases e <;> first | (cases hf'; done) | skip
  all_goals first | cases h.non_ | cases h.bl_ | cases h.int_ | cases h.str_
  all_goals first | cases h'.non_ | cases h'.bl_ | cases h'.int_ | cases h'.str_
  all_goals rfl
theorem flats_of {G : Hp} : ∀ {xs : List V} {ds : List Dt}, DqAll G xs ds → ds.all flatD = true → xs.all flatV = true
  | _, _, .nil, _ => rfl
  | _, _, .cons h t, hf => by
    rw [List.all_cons, Bool.and_eq_true] at hf ⊢
    exact ⟨flat_of (T := ⟨none, fun _ => none⟩) (.inl h) hf.1, flats_of t hf.2⟩
theorem inV_of {T : Tm} {G : Hp} {v : V} {d : Dt} (h : Dv T G v d) (hf : flatD d = true) : ∀ {xs : List V} {ds : List Dt}, DqAll G xs ds → ds.all flatD = true → inV v xs = ds.any fun y => PyData.eqv y d
  | _, _, .nil, _ => rfl
  | _, _, .cons h1 t, hf1 => by
    rw [List.all_cons, Bool.and_eq_true] at hf1
    have ih := inV_of h hf t hf1.2
    unfold inV at ih ⊢
    rw [List.any_cons, List.any_cons, ih, eqV_of (T := T) (.inl h1) h hf1.1 hf]
section
variable {X : Cx}
theorem op_leD : OpR X (compareOp .LtE) (r2 dLe) := by
  intro pins s σ H x y v u Q I rx ry h
  obtain ⟨T, G, d, e, z, st, w, dx, dy, hf, k⟩ := h
  unfold dLe at hf
  split at hf
  · rename_i i j
    cases hf
    exact op_le pins s σ H x y v u Q I rx ry ⟨i, j, dx.int_, dy.int_, k.now w (.inl (.bl _))⟩
  · cases hf
theorem op_gtD : OpR X (compareOp .Gt) (r2 dGt) := by
  intro pins s σ H x y v u Q I rx ry h
  obtain ⟨T, G, d, e, z, st, w, dx, dy, hf, k⟩ := h
  unfold dGt at hf
  split at hf
  · rename_i i j
    cases hf
    exact op_gt pins s σ H x y v u Q I rx ry ⟨i, j, dx.int_, dy.int_, k.now w (.inl (.bl _))⟩
  · cases hf
theorem op_geD : OpR X (compareOp .GtE) (r2 dGe) := by
  intro pins s σ H x y v u Q I rx ry h
  obtain ⟨T, G, d, e, z, st, w, dx, dy, hf, k⟩ := h
  unfold dGe at hf
  split at hf
  · rename_i i j
    cases hf
    exact op_ge pins s σ H x y v u Q I rx ry ⟨i, j, dx.int_, dy.int_, k.now w (.inl (.bl _))⟩
  · cases hf
theorem op_ltD (hu : X.A.units + 64 < cLine) : OpR X (compareOp .Lt) (r2 dLt) := by
  intro pins s σ H x y v u Q I rx ry h
  obtain ⟨T, G, d, e, z, st, w, dx, dy, hf, k⟩ := h
  unfold dLt at hf
  split at hf
  · rename_i i j
    cases hf
    exact op_lt pins s σ H x y v u Q I rx ry ⟨i, j, dx.int_, dy.int_, k.now w (.inl (.bl _))⟩
  · rename_i xs ys
    split at hf
    · rename_i hc
      cases hf
      obtain ⟨as, r1⟩ := Dp.reads I _ _ _ (Dq.dp X.K _ _ (Dq.mono w.sub _ _ (dx.dq (fun _ z => nomatch z)))) rx
      obtain ⟨bs, r2⟩ := Dp.reads I _ _ _ (Dq.dp X.K _ _ (Dq.mono w.sub _ _ (dy.dq (fun _ z => nomatch z)))) ry
      have hd : (PyData.tuple xs).depth ≤ 21 := by
        unfold PyData.depth
        omega
      have q : EP X pins σ Q (.bool (PySem.W.dataLt (.tuple xs) (.tuple ys))) s := ⟨.bl _, H, I, rfl, k.now w (.inl (.bl _))⟩
      have hm : X.A.units + min (PyData.tuple xs).depth (PyData.tuple ys).depth < cLine := by
        have := Nat.min_le_left (PyData.tuple xs).depth (PyData.tuple ys).depth
        omega
      unfold compareOp
      exact PySem.W.rcLt_alike _ _ _ _ _ _ _ _ r1 r2 (by simpa [PySem.W.alike] using hc.1) (fun z => nomatch z) hm _ _ _ _ q
    · cases hf
  · cases hf
theorem op_eqQ (hu : X.A.units + 64 < cLine) : OpR X (compareOp .Eq) (r2 dEq) := by
  intro pins s σ H x y v u Q I rx ry h
  obtain ⟨T, G, d, e, z, st, w, dx, dy, hf, k⟩ := h
  unfold dEq at hf
  split at hf
  · rename_i i j
    cases hf
    cases dx.int_
    cases dy.int_
    exact op_eq pins s σ H _ _ v u Q I rx ry ⟨rfl, by rw [show decide (V.int i = V.int j) = decide (i = j) by by_cases h : i = j <;> simp [h]]; exact k.now w (.inl (.bl _))⟩
  · rename_i i j
    cases hf
    cases dx.str_
    cases dy.str_
    exact op_eq pins s σ H _ _ v u Q I rx ry ⟨rfl, by rw [show decide (V.str i = V.str j) = decide (i = j) by by_cases h : i = j <;> simp [h]]; exact k.now w (.inl (.bl _))⟩
  · rename_i i j
    cases hf
    cases dx.bl_
    cases dy.bl_
    exact op_eq pins s σ H _ _ v u Q I rx ry ⟨rfl, by rw [show decide (V.bl i = V.bl j) = decide (i = j) by by_cases h : i = j <;> simp [h]]; exact k.now w (.inl (.bl _))⟩
  · rename_i xs
    cases hf
    obtain ⟨a, us, rfl, ha, hx⟩ := dx.lst_
    obtain ⟨b, ws, rfl, hb, hy⟩ := dy.lst_
    cases hy
    cases rx
    cases ry
    obtain ⟨its, rv, pl, _⟩ := I.list (SqL.of (K := X.K) (w.sub _ _ ha))
    obtain ⟨its2, rv2, pl2, _⟩ := I.list (SqL.of (K := X.K) (w.sub _ _ hb))
    cases rv2
    have q : EP X pins σ Q (.bool xs.isEmpty) s := ⟨.bl _, H, I, rfl, k.now w (.inl (.bl _))⟩
    have hl : its.length = xs.length := by rw [← rv.length, hx.length]
    unfold compareOp
    cases xs with
    | nil =>
      have e0 : its = [] := List.eq_nil_of_length_eq_zero hl
      subst e0
      exact SeqAt.RcAt.lists pl.isList pl2.isList rfl (by omega) (e := fun _ => true) (fun j h1 _ => absurd h1 (Nat.not_lt_zero _)) _ _ _ _ q
    | cons d ds =>
      refine SeqAt.RcAt.lists_lengths pl.isList pl2.isList ?_ (by omega) _ _ _ _ q
      rw [List.size_toArray, hl]
      rfl
  · split at hf
    · rename_i hc
      cases hf
      have nd : ∀ {q : Dt}, SeqAt.shaped q = true → ∀ z, q ≠ .dict z := fun {q} hq z e => by
        subst e
        exact absurd hq (by simp [SeqAt.shaped, PyData.canLay0])
      exact op_eqD hu pins s σ H x y v u Q I rx ry ⟨d, e, Dq.dp X.K _ _ (Dq.mono w.sub _ _ (dx.dq (nd hc.1))), Dq.dp X.K _ _ (Dq.mono w.sub _ _ (dy.dq (nd hc.2))), hc.1, hc.2, k.now w (.inl (.bl _))⟩
    · cases hf
theorem op_neQ (hu : X.A.units + 64 < cLine) : OpR X (compareOp .NotEq) (r2 dNe) := by
  intro pins s σ H x y v u Q I rx ry h
  obtain ⟨T, G, d, e, z, st, w, dx, dy, hf, k⟩ := h
  unfold dNe at hf
  split at hf
  · rename_i i j
    cases hf
    cases dx.int_
    cases dy.int_
    exact op_ne pins s σ H _ _ v u Q I rx ry ⟨rfl, by rw [show decide (V.int i = V.int j) = decide (i = j) by by_cases h : i = j <;> simp [h]]; exact k.now w (.inl (.bl _))⟩
  · rename_i i j
    cases hf
    cases dx.str_
    cases dy.str_
    exact op_ne pins s σ H _ _ v u Q I rx ry ⟨rfl, by rw [show decide (V.str i = V.str j) = decide (i = j) by by_cases h : i = j <;> simp [h]]; exact k.now w (.inl (.bl _))⟩
  · rename_i i j
    cases hf
    cases dx.bl_
    cases dy.bl_
    exact op_ne pins s σ H _ _ v u Q I rx ry ⟨rfl, by rw [show decide (V.bl i = V.bl j) = decide (i = j) by by_cases h : i = j <;> simp [h]]; exact k.now w (.inl (.bl _))⟩
  · split at hf
    · rename_i hc
      cases hf
      have nd : ∀ {q : Dt}, SeqAt.shaped q = true → ∀ z, q ≠ .dict z := fun {q} hq z e => by
        subst e
        exact absurd hq (by simp [SeqAt.shaped, PyData.canLay0])
      exact op_neD hu pins s σ H x y v u Q I rx ry ⟨d, e, Dq.dp X.K _ _ (Dq.mono w.sub _ _ (dx.dq (nd hc.1))), Dq.dp X.K _ _ (Dq.mono w.sub _ _ (dy.dq (nd hc.2))), hc.1, hc.2, k.now w (.inl (.bl _))⟩
    · cases hf
theorem op_isND : OpR X (compareOp .Is) (r2 dIsN) := by
  intro pins s σ H x y v u Q I rx ry h
  obtain ⟨T, G, d, e, z, st, w, dx, dy, hf, k⟩ := h
  unfold dIsN at hf
  split at hf
  · split at hf
    · cases hf
    · rename_i ht
      cases hf
      exact op_isN pins s σ H x y v u Q I rx ry ⟨dy.non_, by rw [dv_non_iff dx ht]; exact k.now w (.inl (.bl _))⟩
  · cases hf
theorem op_notND : OpR X (compareOp .IsNot) (r2 dNotN) := by
  intro pins s σ H x y v u Q I rx ry h
  obtain ⟨T, G, d, e, z, st, w, dx, dy, hf, k⟩ := h
  unfold dNotN at hf
  split at hf
  · split at hf
    · cases hf
    · rename_i ht
      cases hf
      exact op_notN pins s σ H x y v u Q I rx ry ⟨dy.non_, by rw [dv_non_iff dx ht]; exact k.now w (.inl (.bl _))⟩
  · cases hf
theorem op_inD' : OpR X (compareOp .In) (r2 dIn) := by
  intro pins s σ H x y v u Q I rx ry h
  obtain ⟨T, G, d, e, z, st, w, dx, dy, hf, k⟩ := h
  unfold dIn at hf
  split at hf
  · rename_i i j
    split at hf
    · rename_i c hc
      cases hf
      exact op_in_sign pins s σ H x y v u Q I rx ry ⟨c, j, by rw [dx.str_, signOf_some hc], dy.str_, k.now w (.inl (.bl _))⟩
    · cases hf
  · split at hf
    · rename_i xs _ hc
      cases hf
      obtain ⟨a, us, rfl, ha, hx⟩ := dy.lst_
      exact op_in_seq pins s σ H _ _ v u Q I rx ry ⟨a, us, rfl, .inl (SqL.of (w.sub _ _ ha)), flat_of dx hc.1, flats_of hx hc.2, iteNeg (by rw [inV_of dx hc.1 hx hc.2]; exact k.now w (.inl (.bl _)))⟩
    · cases hf
  · split at hf
    · rename_i xs _ hc
      cases hf
      obtain ⟨a, us, rfl, ha, hx⟩ := dy.tup_
      exact op_in_seq pins s σ H _ _ v u Q I rx ry ⟨a, us, rfl, .inr (SqT.of (w.sub _ _ ha)), flat_of dx hc.1, flats_of hx hc.2, iteNeg (by rw [inV_of dx hc.1 hx hc.2]; exact k.now w (.inl (.bl _)))⟩
    · cases hf
  · cases hf
where iteNeg {Q : VK} {a b : Bool} {H : Hp} (h : Q (.bl b) H) : Q (.bl (if false = true then a else b)) H := h
/-- .. of a flat thing in a tuple or list -/
def dNotInS : Dt → Dt → Option Dt
  | d, .list xs => if flatD d = true ∧ xs.all flatD = true then some (.bool (!xs.any fun y => PyData.eqv y d)) else none
  | d, .tuple xs => if flatD d = true ∧ xs.all flatD = true then some (.bool (!xs.any fun y => PyData.eqv y d)) else none
  | _, _ => none
theorem op_notInD' : OpR X (compareOp .NotIn) (r2 dNotInS) := by
  intro pins s σ H x y v u Q I rx ry h
  obtain ⟨T, G, d, e, z, st, w, dx, dy, hf, k⟩ := h
  unfold dNotInS at hf
  split at hf
  · split at hf
    · rename_i xs hc
      cases hf
      obtain ⟨a, us, rfl, ha, hx⟩ := dy.lst_
      exact op_notIn_seq pins s σ H _ _ v u Q I rx ry ⟨a, us, rfl, .inl (SqL.of (w.sub _ _ ha)), flat_of dx hc.1, flats_of hx hc.2, iteYes (by rw [inV_of dx hc.1 hx hc.2]; exact k.now w (.inl (.bl _)))⟩
    · cases hf
  · split at hf
    · rename_i xs hc
      cases hf
      obtain ⟨a, us, rfl, ha, hx⟩ := dy.tup_
      exact op_notIn_seq pins s σ H _ _ v u Q I rx ry ⟨a, us, rfl, .inr (SqT.of (w.sub _ _ ha)), flat_of dx hc.1, flats_of hx hc.2, iteYes (by rw [inV_of dx hc.1 hx hc.2]; exact k.now w (.inl (.bl _)))⟩
    · cases hf
  · cases hf
where iteYes {Q : VK} {a b : Bool} {H : Hp} (h : Q (.bl (!a)) H) : Q (.bl (if true = true then !a else b)) H := h
end

/-! ### a chain of two comparisons -/
def mChain (f g : Dt → Dt → Option Dt) (a b c : mE) : mE := fun env s => match a env s with
  | none => none
  | some (d, s1) => match b env s1 with
    | none => none
    | some (e, s2) => match f d e with
      | some (.bool false) => some (.bool false, s2)
      | some (.bool true) => match c env s2 with
        | none => none
        | some (z, s3) => match g e z with
          | none => none
          | some r => some (r, s3)
      | _ => none
theorem mChain_inv {f g : Dt → Dt → Option Dt} {a b c : mE} {env : Ev} {s s3 : Tn} {r : Dt} (h : mChain f g a b c env s = some (r, s3)) : ∃ d s1 e s2, a env s = some (d, s1) ∧ b env s1 = some (e, s2) ∧
    ((f d e = some (.bool false) ∧ r = .bool false ∧ s3 = s2) ∨ (f d e = some (.bool true) ∧ ∃ z, c env s2 = some (z, s3) ∧ g e z = some r)) := by
  unfold mChain at h
  split at h
  · cases h
  · rename_i d s1 h1
    split at h
    · cases h
    · rename_i e s2 h2
      refine ⟨d, s1, e, s2, h1, h2, ?_⟩
      split at h
      · rename_i h3
        cases h
        exact .inl ⟨h3, rfl, rfl⟩
      · rename_i h3
        split at h
        · cases h
        · rename_i z s4 h4
          split at h
          · cases h
          · rename_i r' h5
            cases h
            exact .inr ⟨h3, z, h4, h5⟩
      · cases h
section
variable {X : Cx} {a b c : Expr} {ma mb mc : mE} {f g : Dt → Dt → Option Dt} {op op' : CmpOp} {pos : Pos}
theorem chain_of {σ : L2.St} {H : Hp} {Q : VK} (h : SE (mChain f g ma mb mc) σ H Q) : tChain (r2 f) (r2 g) (SE ma) (SE mb) (SE mc) σ H Q := by
  obtain ⟨T, G, env, s, r, s3, w, e, hm, k⟩ := h
  obtain ⟨d, s1, e1, s2, h1, h2, h3⟩ := mChain_inv hm
  refine SE.seq w e h1 fun G1 H1 x x1 w1 eo1 dv1 => SE.seq w1 eo1 h2 fun G2 H2 y x2 w2 eo2 dv2 => ?_
  have x12 := x1.trans w1 x2
  rcases h3 with ⟨h3, rfl, rfl⟩ | ⟨h3, z, h4, h5⟩
  · refine ⟨T, G2, d, e1, .bool false, s3, w2, dv1.mono x2.up, dv2, h3, fun G3 H3 v x3 w3 dv3 => ⟨false, dv3.bl_, iteF (k G3 H3 _ (x12.trans w2 x3) w3 (.inl (.bl _)))⟩⟩
  · refine ⟨T, G2, d, e1, .bool true, s2, w2, dv1.mono x2.up, dv2, h3, fun G3 H3 v x3 w3 dv3 => ⟨true, dv3.bl_, iteT ?_⟩⟩
    refine SE.seq w3 (eo2.mono x3.up) h4 fun G4 H4 u x4 w4 eo4 dv4 => ?_
    exact ⟨T, G4, e1, z, r, s3, w4, dv2.mono (x3.up.trans x4.up), dv4, h5, fun G5 H5 v x5 w5 dv5 => k G5 H5 v ((x12.trans w2 (x3.trans w3 x4)).trans w4 x5) w5 dv5⟩
theorem se_chain (ho : OpR X (compareOp op) (r2 f)) (ho' : OpR X (compareOp op') (r2 g)) (ha : PE X a (SE ma)) (hb : PE X b (SE mb)) (hc : PE X c (SE mc)) (hm : lastMarks [op, op'] [b, c] = false := by with_unfolding_all rfl) : PE X (.Compare a [op, op'] [b, c] pos) (SE (mChain f g ma mb mc)) :=
  sim_pe (pe_chain ho ho' ha hb hc hm) fun _ _ _ h => chain_of h
theorem st_chain (ho : OpR X (compareOp op) (r2 f)) (ho' : OpR X (compareOp op') (r2 g)) (ha : PE X a (SE ma)) (hb : PE X b (SE mb)) (hc : PE X c (SE mc)) (hm : lastMarks [op, op'] [b, c] = false := by with_unfolding_all rfl) : PT X (.Compare a [op, op'] [b, c] pos) (SB (mT (mChain f g ma mb mc))) :=
  sim_pt (pt_chain ho ho' ha hb hc hm) fun σ H Q h => by
    obtain ⟨T, G, env, s, c, s1, w, e, hm, k⟩ := h
    exact chain_of ⟨T, G, env, s, .bool c, s1, w, e, mT_inv hm, fun G1 H1 v x w1 dv => ⟨c, dv.bl_, k G1 H1 x w1⟩⟩
end

/-! ### subscripts, slices -/
def dIx : Dt → Dt → Option Dt
  | .list xs, .int i => atI xs i
  | .tuple xs, .int i => atI xs i
  | .str z, .int i => if z.length ≤ line then (match atI z.cps.toList i with
    | some c => some (.str ⟨#[c]⟩)
    | none => none) else none
  | _, _ => none
theorem ixN_len {n m : Nat} (h : n = m) (i : Int) : ixN n i = ixN m i := by rw [h]
theorem DqAll.atI {G : Hp} {vs : List V} {ds : List Dt} {i : Int} {d : Dt} (h : DqAll G vs ds) (e : L2.atI ds i = some d) : ∃ v, L2.atI vs i = some v ∧ Dq G v d := by
  unfold L2.atI at e ⊢
  rw [ixN_len h.length i]
  cases q : ixN ds.length i with
  | none =>
    rw [q] at e
    cases e
  | some j =>
    rw [q] at e
    obtain ⟨v, h1, h2⟩ := h.get (i := j) (d := d) e
    exact ⟨v, h1, h2⟩
def cutD {α : Type} (xs : List α) (lo hi : Option Int) : List α := (xs.drop (HT.sIx xs.length 0 lo)).take (HT.sIx xs.length xs.length hi - HT.sIx xs.length 0 lo)
def dSl : Dt → Option Int → Option Int → Option Dt
  | .list xs, lo, hi => some (.list (cutD xs lo hi))
  | .tuple xs, lo, hi => some (.tuple (cutD xs lo hi))
  | .str z, lo, hi => if z.length ≤ line then some (.str (cutS z lo hi)) else none
  | _, _, _ => none
abbrev mO := Ev → Tn → Option (Option Int × Tn)
def oNone : mO := fun _ s => some (none, s)
def oSome (a : mE) : mO := fun env s => match a env s with
  | some (.int i, s1) => some (some i, s1)
  | _ => none
def mSl (a : mE) (lo hi : mO) : mE := fun env s => match a env s with
  | none => none
  | some (d, s1) => match lo env s1 with
    | none => none
    | some (l, s2) => match hi env s2 with
      | none => none
      | some (u, s3) => match dSl d l u with
        | none => none
        | some z => some (z, s3)
theorem mSl_inv {a : mE} {lo hi : mO} {env : Ev} {s s3 : Tn} {z : Dt} (h : mSl a lo hi env s = some (z, s3)) : ∃ d s1 l s2 u, a env s = some (d, s1) ∧ lo env s1 = some (l, s2) ∧ hi env s2 = some (u, s3) ∧ dSl d l u = some z := by
  unfold mSl at h
  split at h
  · cases h
  · rename_i d s1 h1
    split at h
    · cases h
    · rename_i l s2 h2
      split at h
      · cases h
      · rename_i u s4 h3
        split at h
        · cases h
        · rename_i z' h4
          cases h
          exact ⟨d, s1, l, s2, u, h1, h2, h3, h4⟩
def SO (m : mO) : TO := fun σ H Q => ∃ T G env s o s', Wd T s G H ∧ EnvOk T G σ env ∧ m env s = some (o, s') ∧ ∀ G' H', Ext T G H G' H' → Wd T s' G' H' → Q o H'
def rSlD : V → Option Int → Option Int → Hp → VK → Prop := fun x lo hi H Q => ∃ T G d z s, Wd T s G H ∧ Dv T G x d ∧ dSl d lo hi = some z ∧ Th T s G H z Q
theorem cutV_len {G : Hp} {xs : List V} {ds : List Dt} (h : DqAll G xs ds) (lo hi : Option Int) : DqAll G (cutV xs lo hi) (cutD ds lo hi) := by
  unfold cutV cutD
  rw [h.length]
  exact (h.drop _).take _
theorem cutD_all {α : Type} {xs : List α} {lo hi : Option Int} (h : HT.sIx xs.length 0 lo = 0 ∧ HT.sIx xs.length xs.length hi = xs.length) : cutD xs lo hi = xs := by
  unfold cutD
  rw [h.1, h.2]
  simp
section
variable {X : Cx} {a b : Expr} {ma mb : mE} {pos p2 : Pos} {lo hi : Option Expr} {ml mh : mO}
theorem ix_D : IxR X (r2 dIx) := by
  intro ve sl pins s σ H x y v u Q I rx ry h hs
  obtain ⟨T, G, d, e, z, st, w, dx, dy, hf, k⟩ := h
  unfold dIx at hf
  split at hf
  · rename_i xs i
    obtain ⟨a, us, rfl, ha, hx⟩ := dx.lst_
    obtain ⟨c, h1, h2⟩ := hx.atI hf
    exact ix_list ve sl pins s σ H _ _ v u Q I rx ry ⟨a, us, i, c, rfl, dy.int_, SqL.of (w.sub _ _ ha), h1, k.now w (.inl h2)⟩ hs
  · rename_i xs i
    obtain ⟨a, us, rfl, ha, hx⟩ := dx.tup_
    obtain ⟨c, h1, h2⟩ := hx.atI hf
    exact ix_tup ve sl pins s σ H _ _ v u Q I rx ry ⟨a, us, i, c, rfl, dy.int_, SqT.of (w.sub _ _ ha), h1, k.now w (.inl h2)⟩ hs
  · rename_i z0 i
    split at hf
    · rename_i hl
      split at hf
      · rename_i c hc
        cases hf
        exact ix_str ve sl pins s σ H x y v u Q I rx ry ⟨z0, i, c, dx.str_, dy.int_, by rw [sizeLine_is]; exact hl, hc, k.now w (.inl (.str _))⟩ hs
      · cases hf
    · cases hf
  · cases hf
theorem so_none : PO X none (SO oNone) := ⟨fun pins s σ H Q I q => po_none.run pins s σ H Q I (by
  obtain ⟨T, G, env, s, o, s', w, e, hm, k⟩ := q
  cases hm
  exact k G H .refl w)⟩
theorem so_some (h : PE X a (SE ma)) : PO X (some a) (SO (oSome ma)) := ⟨fun pins s σ H Q I q => (po_some h).run pins s σ H Q I (by
  obtain ⟨T, G, env, s, o, s', w, e, hm, k⟩ := q
  unfold oSome at hm
  split at hm
  · rename_i i s1 h1
    cases hm
    exact SE.seq w e h1 fun G1 H1 v x1 w1 eo1 dv1 => ⟨i, dv1.int_, k G1 H1 x1 w1⟩
  · cases hm)⟩
theorem sl_D : SlR X rSlD := by
  intro pins s σ H x v vl vu lo hi sl Q I rx hs pl pu h
  obtain ⟨T, G, d, z, st, w, dx, hf, k⟩ := h
  unfold dSl at hf
  split at hf
  · cases hf
    obtain ⟨a, us, rfl, ha, hx⟩ := dx.lst_
    exact sl_list pins s σ H _ v vl vu lo hi sl Q I rx hs pl pu ⟨a, us, rfl, SqL.of (w.sub _ _ ha), fun p hp => k.new w hp (cutV_len hx lo hi)⟩
  · rename_i xs
    cases hf
    obtain ⟨a, us, rfl, ha, hx⟩ := dx.tup_
    refine sl_tupA pins s σ H _ v vl vu lo hi sl Q I rx hs pl pu ⟨a, us, rfl, SqT.of (w.sub _ _ ha), fun hw => ?_, fun _ p hp => k.newT w hp (cutV_len hx lo hi)⟩
    rw [hx.length] at hw
    rw [cutD_all hw] at k
    exact k.now w (.inl (.tup ha hx))
  · rename_i z0
    split at hf
    · rename_i hl
      cases hf
      exact sl_str pins s σ H x v vl vu lo hi sl Q I rx hs pl pu ⟨z0, dx.str_, by rw [sizeLine_is]; exact hl, k.now w (.inl (.str _))⟩
    · cases hf
  · cases hf
theorem se_slice (ha : PE X a (SE ma)) (hl : PO X lo (SO ml)) (hh : PO X hi (SO mh)) : PE X (.Subscript a (.Slice lo hi none p2) pos) (SE (mSl ma ml mh)) := sim_pe (pe_slice sl_D ha hl hh) fun σ H Q h => by
  obtain ⟨T, G, env, s, r, s3, w, e, hm, k⟩ := h
  obtain ⟨d, s1, l, s2, u, h1, h2, h3, h4⟩ := mSl_inv hm
  refine SE.seq w e h1 fun G1 H1 x x1 w1 eo1 dv1 => ⟨T, G1, env, s1, l, s2, w1, eo1, h2, fun G2 H2 x2 w2 => ⟨T, G2, env, s2, u, s3, w2, eo1.mono x2.up, h3, fun G3 H3 x3 w3 => ?_⟩⟩
  exact ⟨T, G3, d, r, s3, w3, dv1.mono (x2.up.trans x3.up), h4, fun G4 H4 v x4 w4 dv4 => k G4 H4 v ((x1.trans w1 (x2.trans w2 x3)).trans w3 x4) w4 dv4⟩
/-- xs[::-1] -/
def dRev : Dt → Option Dt
  | .list xs => some (.list xs.reverse)
  | _ => none
theorem se_rev {k : Nat} {p1 p2 p3 : Pos} (ha : PE X a (SE ma)) : PE X (.Subscript a (.Slice none none (some (.UnaryOp .USub (.Constant (.int 1) k p1) p2)) p3) pos) (SE (m1 dRev ma)) := sim_pe (pe_revL ha) fun σ H Q h => by
  obtain ⟨T, G, env, s, r, s3, w, e, hm, k⟩ := h
  obtain ⟨d, h1, h2⟩ := m1_inv hm
  refine SE.seq w e h1 fun G1 H1 x x1 w1 eo1 dv1 => ?_
  cases d with
  | list ds =>
    cases h2
    obtain ⟨a, us, rfl, ha, hx⟩ := dv1.lst_
    have k1 : Th T s3 G1 H1 (.list ds.reverse) Q := fun G2 H2 v x2 w2 dv2 => k G2 H2 v (x1.trans w1 x2) w2 dv2
    exact ⟨a, us, rfl, SqL.of (w1.sub _ _ ha), fun p hp => k1.new w1 hp hx.reverse⟩
  | _ => cases h2
end
end Md
-- Md3
set_option Elab.async false
set_option linter.all false
set_option maxRecDepth 100000
set_option maxHeartbeats 2000000
/-! Built-in functions and methods by their data. -/
namespace Md
open PySem PySem.Spec PyProof.Rows L2
set_option autoImplicit false

def ints? : List Dt → Option (List Int)
  | [] => some []
  | .int i :: r => match ints? r with
    | some l => some (i :: l)
    | none => none
  | _ :: _ => none
def bools? : List Dt → Option (List Bool)
  | [] => some []
  | .bool i :: r => match bools? r with
    | some l => some (i :: l)
    | none => none
  | _ :: _ => none
def strs? : List Dt → Option (List Str)
  | [] => some []
  | .str i :: r => match strs? r with
    | some l => some (i :: l)
    | none => none
  | _ :: _ => none
section
variable {G : Hp}
theorem ints_of : ∀ {vs : List V} {ds : List Dt} {l : List Int}, DqAll G vs ds → ints? ds = some l → vs = l.map V.int
  | _, _, _, .nil, h => by
    cases h
    rfl
  | _, _, _, @DqAll.cons _ v vs d ds h1 t, h => by
    unfold ints? at h
    split at h
    · rename_i e
      cases e
    · rename_i i r e
      cases e
      split at h
      · rename_i l2 h2
        cases h
        cases h1
        rw [ints_of t h2] <;> rfl
      · cases h
    · cases h
theorem bools_of : ∀ {vs : List V} {ds : List Dt} {l : List Bool}, DqAll G vs ds → bools? ds = some l → vs = l.map V.bl
  | _, _, _, .nil, h => by
    cases h
    rfl
  | _, _, _, @DqAll.cons _ v vs d ds h1 t, h => by
    unfold bools? at h
    split at h
    · rename_i e
      cases e
    · rename_i i r e
      cases e
      split at h
      · rename_i l2 h2
        cases h
        cases h1
        rw [bools_of t h2] <;> rfl
      · cases h
    · cases h
theorem strs_of : ∀ {vs : List V} {ds : List Dt} {l : List Str}, DqAll G vs ds → strs? ds = some l → vs = l.map V.str
  | _, _, _, .nil, h => by
    cases h
    rfl
  | _, _, _, @DqAll.cons _ v vs d ds h1 t, h => by
    unfold strs? at h
    split at h
    · rename_i e
      cases e
    · rename_i i r e
      cases e
      split at h
      · rename_i l2 h2
        cases h
        cases h1
        rw [strs_of t h2] <;> rfl
      · cases h
    · cases h
end
def dLen : List Dt → Option Dt
  | [.list xs] => some (.int xs.length)
  | [.tuple xs] => some (.int xs.length)
  | [.str z] => if z.length ≤ line then some (.int z.length) else none
  | _ => none
def dMin2 : List Dt → Option Dt
  | [.int i, .int j] => some (.int (if j < i then j else i))
  | _ => none
def dMax2 : List Dt → Option Dt
  | [.int i, .int j] => some (.int (if j > i then j else i))
  | _ => none
def dSum : List Dt → Option Dt
  | [.list xs] => match ints? xs with
    | some l => some (.int l.sum)
    | none => none
  | _ => none
def dAny : List Dt → Option Dt
  | [.list xs] => match bools? xs with
    | some l => some (.bool (l.any id))
    | none => none
  | _ => none
def dAll : List Dt → Option Dt
  | [.list xs] => match bools? xs with
    | some l => some (.bool (l.all id))
    | none => none
  | _ => none
def dInt : List Dt → Option Dt
  | [.int i] => some (.int i)
  | [.bool k] => some (.int (if k then 1 else 0))
  | _ => none
def dStr : List Dt → Option Dt
  | [.int i] => if i.natAbs < 2 ^ 64 then some (.str (toString i)) else none
  | _ => none
def dList : List Dt → Option Dt
  | [.list xs] => some (.list xs)
  | [.tuple xs] => some (.list xs)
  | _ => none
def dTuple : List Dt → Option Dt
  | [.list xs] => some (.tuple xs)
  | [.tuple xs] => some (.tuple xs)
  | _ => none
def dGcd : List Dt → Option Dt
  | [.int a, .int b] => some (.int ((Nat.gcd a.natAbs b.natAbs : Nat) : Int))
  | _ => none
theorem dv1 {T : Tm} {G : Hp} {xs : List V} {d : Dt} (h : DvAll T G xs [d]) : ∃ x, xs = [x] ∧ Dv T G x d := by
  cases h with
  | cons p q =>
    cases q
    exact ⟨_, rfl, p⟩
theorem dv2 {T : Tm} {G : Hp} {xs : List V} {d e : Dt} (h : DvAll T G xs [d, e]) : ∃ x y, xs = [x, y] ∧ Dv T G x d ∧ Dv T G y e := by
  cases h with
  | cons p q =>
    obtain ⟨y, rfl, h2⟩ := dv1 q
    exact ⟨_, _, rfl, p, h2⟩
section
variable {X : Cx}
theorem cr_len : CallR X (.builtin "len") (rF dLen) := by
  intro pins s σ H xs us Q I r h
  obtain ⟨T, G, ds, z, st, w, dv, hf, k⟩ := h
  unfold dLen at hf
  split at hf
  · cases hf
    obtain ⟨x, rfl, h1⟩ := dv1 dv
    obtain ⟨a, ys, rfl, ha, hx⟩ := h1.lst_
    exact call_len_seq pins s σ H _ us Q I r ⟨a, ys, rfl, .inl (SqL.of (w.sub _ _ ha)), by rw [hx.length]; exact k.now w (.inl (.int _))⟩
  · cases hf
    obtain ⟨x, rfl, h1⟩ := dv1 dv
    obtain ⟨a, ys, rfl, ha, hx⟩ := h1.tup_
    exact call_len_seq pins s σ H _ us Q I r ⟨a, ys, rfl, .inr (SqT.of (w.sub _ _ ha)), by rw [hx.length]; exact k.now w (.inl (.int _))⟩
  · split at hf
    · rename_i z0 hl
      cases hf
      obtain ⟨x, rfl, h1⟩ := dv1 dv
      exact call_len_str pins s σ H _ us Q I r ⟨z0, by rw [h1.str_], by rw [sizeLine_is]; exact hl, k.now w (.inl (.int _))⟩
    · cases hf
  · cases hf
theorem cr_min2 (hc : X.calm = true) : CallR X (.builtin "min") (rF dMin2) := by
  intro pins s σ H xs us Q I r h
  obtain ⟨T, G, ds, z, st, w, dv, hf, k⟩ := h
  unfold dMin2 at hf
  split at hf
  · rename_i i j
    cases hf
    obtain ⟨x, y, rfl, h1, h2⟩ := dv2 dv
    exact call_min2 hc pins s σ H _ us Q I r ⟨i, j, by rw [h1.int_, h2.int_], k.now w (.inl (.int _))⟩
  · cases hf
theorem cr_max2 (hc : X.calm = true) : CallR X (.builtin "max") (rF dMax2) := by
  intro pins s σ H xs us Q I r h
  obtain ⟨T, G, ds, z, st, w, dv, hf, k⟩ := h
  unfold dMax2 at hf
  split at hf
  · rename_i i j
    cases hf
    obtain ⟨x, y, rfl, h1, h2⟩ := dv2 dv
    exact call_max2 hc pins s σ H _ us Q I r ⟨i, j, by rw [h1.int_, h2.int_], k.now w (.inl (.int _))⟩
  · cases hf
theorem cr_sumD (hc : X.calm = true) : CallR X (.builtin "sum") (rF dSum) := by
  intro pins s σ H xs us Q I r h
  obtain ⟨T, G, ds, z, st, w, dv, hf, k⟩ := h
  unfold dSum at hf
  split at hf
  · split at hf
    · rename_i l hl
      cases hf
      obtain ⟨x, rfl, h1⟩ := dv1 dv
      obtain ⟨a, ys, rfl, ha, hx⟩ := h1.lst_
      have e := ints_of hx hl
      subst e
      exact L2.cr_sum hc pins s σ H _ us Q I r ⟨a, l, rfl, SqL.of (w.sub _ _ ha), k.now w (.inl (.int _))⟩
    · cases hf
  · cases hf
theorem cr_anyD (hc : X.calm = true) : CallR X (.builtin "any") (rF dAny) := by
  intro pins s σ H xs us Q I r h
  obtain ⟨T, G, ds, z, st, w, dv, hf, k⟩ := h
  unfold dAny at hf
  split at hf
  · split at hf
    · rename_i l hl
      cases hf
      obtain ⟨x, rfl, h1⟩ := dv1 dv
      obtain ⟨a, ys, rfl, ha, hx⟩ := h1.lst_
      have e := bools_of hx hl
      subst e
      exact L2.cr_any hc pins s σ H _ us Q I r ⟨a, l, rfl, SqL.of (w.sub _ _ ha), k.now w (.inl (.bl _))⟩
    · cases hf
  · cases hf
theorem cr_allD (hc : X.calm = true) : CallR X (.builtin "all") (rF dAll) := by
  intro pins s σ H xs us Q I r h
  obtain ⟨T, G, ds, z, st, w, dv, hf, k⟩ := h
  unfold dAll at hf
  split at hf
  · split at hf
    · rename_i l hl
      cases hf
      obtain ⟨x, rfl, h1⟩ := dv1 dv
      obtain ⟨a, ys, rfl, ha, hx⟩ := h1.lst_
      have e := bools_of hx hl
      subst e
      exact L2.cr_all hc pins s σ H _ us Q I r ⟨a, l, rfl, SqL.of (w.sub _ _ ha), k.now w (.inl (.bl _))⟩
    · cases hf
  · cases hf
theorem cr_intD : CallR X (.type "int") (rF dInt) := by
  intro pins s σ H xs us Q I r h
  obtain ⟨T, G, ds, z, st, w, dv, hf, k⟩ := h
  unfold dInt at hf
  split at hf
  · rename_i i
    cases hf
    obtain ⟨x, rfl, h1⟩ := dv1 dv
    exact call_int1 pins s σ H _ us Q I r (.inl ⟨i, by rw [h1.int_], k.now w (.inl (.int _))⟩)
  · rename_i i
    cases hf
    obtain ⟨x, rfl, h1⟩ := dv1 dv
    exact call_int1 pins s σ H _ us Q I r (.inr ⟨i, by rw [h1.bl_], k.now w (.inl (.int _))⟩)
  · cases hf
theorem cr_strD : CallR X (.type "str") (rF dStr) := by
  intro pins s σ H xs us Q I r h
  obtain ⟨T, G, ds, z, st, w, dv, hf, k⟩ := h
  unfold dStr at hf
  split at hf
  · rename_i i
    split at hf
    · rename_i hl
      cases hf
      obtain ⟨x, rfl, h1⟩ := dv1 dv
      refine call_str_int pins s σ H _ us Q I r ⟨i, by rw [h1.int_], ?_, k.now w (.inl (.str _))⟩
      by_cases h0 : i.natAbs = 0
      · rw [h0] <;> decide
      · exact Nat.lt_of_lt_of_le ((Nat.log2_lt h0).mpr hl) (by decide)
    · cases hf
  · cases hf
theorem cr_listD : CallR X (.type "list") (rF dList) := by
  intro pins s σ H xs us Q I r h
  obtain ⟨T, G, ds, z, st, w, dv, hf, k⟩ := h
  unfold dList at hf
  split at hf
  · cases hf
    obtain ⟨x, rfl, h1⟩ := dv1 dv
    obtain ⟨a, ys, rfl, ha, hx⟩ := h1.lst_
    exact call_list_of pins s σ H _ us Q I r ⟨a, ys, rfl, .inl (SqL.of (w.sub _ _ ha)), fun p hp => k.new w hp hx⟩
  · cases hf
    obtain ⟨x, rfl, h1⟩ := dv1 dv
    obtain ⟨a, ys, rfl, ha, hx⟩ := h1.tup_
    exact call_list_of pins s σ H _ us Q I r ⟨a, ys, rfl, .inr (SqT.of (w.sub _ _ ha)), fun p hp => k.new w hp hx⟩
  · cases hf
theorem cr_tupleD : CallR X (.type "tuple") (rF dTuple) := by
  intro pins s σ H xs us Q I r h
  obtain ⟨T, G, ds, z, st, w, dv, hf, k⟩ := h
  unfold dTuple at hf
  split at hf
  · cases hf
    obtain ⟨x, rfl, h1⟩ := dv1 dv
    obtain ⟨a, ys, rfl, ha, hx⟩ := h1.lst_
    exact call_tuple_of pins s σ H _ us Q I r ⟨a, ys, rfl, .inl ⟨SqL.of (w.sub _ _ ha), fun p hp => k.newT w hp hx⟩⟩
  · cases hf
    obtain ⟨x, rfl, h1⟩ := dv1 dv
    obtain ⟨a, ys, rfl, ha, hx⟩ := h1.tup_
    exact call_tuple_of pins s σ H _ us Q I r ⟨a, ys, rfl, .inr ⟨SqT.of (w.sub _ _ ha), k.now w (.inl (.tup ha hx))⟩⟩
  · cases hf
theorem cr_gcdD : CallR X (.builtin "math.gcd") (rF dGcd) := by
  intro pins s σ H xs us Q I r h
  obtain ⟨T, G, ds, z, st, w, dv, hf, k⟩ := h
  unfold dGcd at hf
  split at hf
  · rename_i i j
    cases hf
    obtain ⟨x, y, rfl, h1, h2⟩ := dv2 dv
    exact cr_gcd pins s σ H _ us Q I r ⟨i, j, by rw [h1.int_, h2.int_], k.now w (.inl (.int _))⟩
  · cases hf
end
section
variable {X : Cx} {e : Expr} {es : List Expr} {ms : mA} {pos : Pos} {f : List Dt → Option Dt}
/-- a built-in function that the module has imported -/
theorem se_callF {x : Str} {p : Pos} {id : String} (hc : CallR X (.builtin id) (rF f)) (hm : X.mg x = some (.builtin id)) (ha : PA X (e :: es) (SA ms)) (hg : Gl X x := by rfl) (hdb : (x == ("__debug__" : Str)) = false := by decide)
    (he : starEach (e :: es) X.env = (false, eval e X.env) :: starEach es X.env := by rfl) (hpl : (backTo pos (starEach es X.env)).any (·.1) = false := by rfl) : PE X (.Call (.Name x p) (e :: es) [] pos) (SE (mF f ms)) := sim_pe (pe_callBfun hc hg hm ha hdb he hpl) fun _ _ _ h => rF_of h
end

/-! ### isinstance -/
def dIsInt : Dt → Option Dt
  | .int _ => some (.bool true)
  | .bool _ => some (.bool true)
  | .dict _ => none
  | _ => some (.bool false)
def dIsBool : Dt → Option Dt
  | .bool _ => some (.bool true)
  | .dict _ => none
  | _ => some (.bool false)
def dIsTup : Dt → Option Dt
  | .tuple _ => some (.bool true)
  | .dict _ => none
  | _ => some (.bool false)
def dIsList : Dt → Option Dt
  | .list _ => some (.bool true)
  | .dict _ => none
  | _ => some (.bool false)
def dIsSeq : Dt → Option Dt
  | .list _ => some (.bool true)
  | .tuple _ => some (.bool true)
  | .dict _ => none
  | _ => some (.bool false)
def dIsBS : Dt → Option Dt
  | .bool _ => some (.bool true)
  | .str _ => some (.bool true)
  | .dict _ => none
  | _ => some (.bool false)
def tyName : Dt → String
  | .none => "NoneType"
  | .bool _ => "bool"
  | .int _ => "int"
  | .str _ => "str"
  | .list _ => "list"
  | .tuple _ => "tuple"
  | .dict _ => "dict"
theorem tyX_of {K : PySem.W.Frag} {T : Tm} {G H : Hp} {s : Tn} {v : V} {d : Dt} (w : Wd T s G H) (h : Dv T G v d) (n : isTin d = false) : TyX K H v (.type (tyName d)) := by
  cases d with
  | none =>
    cases h.non_
    exact .base .non
  | bool b =>
    cases h.bl_
    exact .base (.bl _)
  | int i =>
    cases h.int_
    exact .base (.int _)
  | str x =>
    cases h.str_
    exact .base (.str _)
  | list ds =>
    obtain ⟨a, xs, rfl, ha, _⟩ := h.lst_
    exact .base (.lst (w.sub _ _ ha))
  | tuple ds =>
    obtain ⟨a, xs, rfl, ha, _⟩ := h.tup_
    exact .base (.tup (w.sub _ _ ha))
  | dict _ => cases n
/-- what a test by one built-in class answers -/
structure Isi (c : String) (f : Dt → Option Dt) : Prop where
  ok : ∀ d z, f d = some z → isTin d = false ∧ ∃ b, z = .bool b ∧ kitB (tyName d) c = some b
theorem isi_int : Isi "int" dIsInt := ⟨fun d z h => by cases d <;> first | (cases h; done) | (cases h; exact ⟨rfl, _, rfl, by dsimp only [tyName]; decide +kernel⟩)⟩
theorem isi_bool : Isi "bool" dIsBool := ⟨fun d z h => by cases d <;> first | (cases h; done) | (cases h; exact ⟨rfl, _, rfl, by dsimp only [tyName]; decide +kernel⟩)⟩
theorem isi_tup : Isi "tuple" dIsTup := ⟨fun d z h => by cases d <;> first | (cases h; done) | (cases h; exact ⟨rfl, _, rfl, by dsimp only [tyName]; decide +kernel⟩)⟩
theorem isi_list : Isi "list" dIsList := ⟨fun d z h => by cases d <;> first | (cases h; done) | (cases h; exact ⟨rfl, _, rfl, by dsimp only [tyName]; decide +kernel⟩)⟩
/-- .. by two -/
structure Isi2 (c1 c2 : String) (f : Dt → Option Dt) : Prop where
  ok : ∀ d z, f d = some z → isTin d = false ∧ ∃ b1 b2, kitB (tyName d) c1 = some b1 ∧ kitB (tyName d) c2 = some b2 ∧ z = .bool (b1 || b2)
theorem isi_seq : Isi2 "list" "tuple" dIsSeq := ⟨fun d z h => by
  cases d <;> first
    | (cases h; done)
    | (cases h; exact ⟨rfl, true, false, by dsimp only [tyName]; decide +kernel, by dsimp only [tyName]; decide +kernel, rfl⟩)
    | (cases h; exact ⟨rfl, false, true, by dsimp only [tyName]; decide +kernel, by dsimp only [tyName]; decide +kernel, rfl⟩)
    | (cases h; exact ⟨rfl, false, false, by dsimp only [tyName]; decide +kernel, by dsimp only [tyName]; decide +kernel, rfl⟩)⟩
theorem isi_bs : Isi2 "bool" "str" dIsBS := ⟨fun d z h => by
  cases d <;> first
    | (cases h; done)
    | (cases h; exact ⟨rfl, true, false, by dsimp only [tyName]; decide +kernel, by dsimp only [tyName]; decide +kernel, rfl⟩)
    | (cases h; exact ⟨rfl, false, true, by dsimp only [tyName]; decide +kernel, by dsimp only [tyName]; decide +kernel, rfl⟩)
    | (cases h; exact ⟨rfl, false, false, by dsimp only [tyName]; decide +kernel, by dsimp only [tyName]; decide +kernel, rfl⟩)⟩
section
variable {X : Cx} {e : Expr} {me : mE} {pos p p2 : Pos} {f : Dt → Option Dt}
theorem se_isi {c : String} {x : Str} (S : Isi c f) (he : PE X e (SE me)) (hm : X.mg "isinstance" = none) (hm2 : X.mg x = none) (hv : bootBuiltins x = some (.type c)) (hg : Gl X "isinstance" := by rfl) (hg2 : Gl X x := by rfl)
    (hn : x ≠ "__name__" := by decide) (hd : (x == ("__debug__" : Str)) = false := by decide)
    (hs : starEach [e, .Name x p2] X.env = (false, eval e X.env) :: starEach [.Name x p2] X.env := by rfl) (hs2 : starEach [.Name x p2] X.env = (false, eval (.Name x p2) X.env) :: starEach [] X.env := by rfl) (hpl : (backTo pos (starEach [.Name x p2] X.env)).any (·.1) = false := by rfl) :
    PE X (.Call (.Name "isinstance" p) [e, .Name x p2] [] pos) (SE (m1 f me)) :=
  sim_pe (pe_callB call_isi hg hm (by decide +kernel) (pa_cons he (pa_cons (pe_bltn (v := .ty c) hg2 hm2 hv rfl hn hd) pa_nil hs2) hs) (by decide) (by decide) hs hpl) fun σ H Q h => by
    obtain ⟨T, G, env, s, z, s2, w, e, hm, k⟩ := h
    obtain ⟨d, h1, h2⟩ := m1_inv hm
    obtain ⟨nt, b, rfl, hb⟩ := S.ok d z h2
    exact SE.seq w e h1 fun G1 H1 v x1 w1 eo1 dv1 => ⟨v, .ty c, _, _, b, rfl, .ty c, tyX_of w1 dv1 nt, kit_ty hb, k G1 H1 _ x1 w1 (.inl (.bl _))⟩
theorem kit_two {K : PySem.W.Frag} {t c1 c2 : String} {b1 b2 : Bool} (h1 : kitB t c1 = some b1) (h2 : kitB t c2 = some b2) : PySem.W.kitAny K (.type t) [.type c1, .type c2] = some (b1 || b2) := by
  refine kitAny_cons (kit_ty h1) (fun e => ?_) (fun e => by rw [e]; rfl)
  refine kitAny_cons (kit_ty h2) (fun e2 => ?_) (fun e2 => by rw [e2, e]; rfl)
  rw [e, e2]
  exact kitAny_nil
theorem se_isi2 {c1 c2 : String} {x1 x2 : Str} {k : Nat} {p3 pt : Pos} (S : Isi2 c1 c2 f) (he : PE X e (SE me)) (hm : X.mg "isinstance" = none) (hm1 : X.mg x1 = none) (hm2 : X.mg x2 = none) (hv1 : bootBuiltins x1 = some (.type c1)) (hv2 : bootBuiltins x2 = some (.type c2))
    (hg : Gl X "isinstance" := by rfl) (hg1 : Gl X x1 := by rfl) (hg2 : Gl X x2 := by rfl) (hn1 : x1 ≠ "__name__" := by decide) (hn2 : x2 ≠ "__name__" := by decide) (hd1 : (x1 == ("__debug__" : Str)) = false := by decide) (hd2 : (x2 == ("__debug__" : Str)) = false := by decide)
    (hs : starEach [e, .Tuple [.Name x1 p2, .Name x2 p3] k pt] X.env = (false, eval e X.env) :: starEach [.Tuple [.Name x1 p2, .Name x2 p3] k pt] X.env := by rfl) (hpl : (backTo pos (starEach [.Tuple [.Name x1 p2, .Name x2 p3] k pt] X.env)).any (·.1) = false := by rfl) :
    PE X (.Call (.Name "isinstance" p) [e, .Tuple [.Name x1 p2, .Name x2 p3] k pt] [] pos) (SE (m1 f me)) :=
  sim_pe (pe_callB call_isiT hg hm (by decide +kernel) (pa_cons he (pa_cons (pe_tup (pa_cons (pe_bltn (v := .ty c1) hg1 hm1 hv1 rfl hn1 hd1) (pa_cons (pe_bltn (v := .ty c2) hg2 hm2 hv2 rfl hn2 hd2) pa_nil))) pa_nil) hs) (by decide) (by decide) hs hpl) fun σ H Q h => by
    obtain ⟨T, G, env, s, z, s2, w, e, hm, k⟩ := h
    obtain ⟨d, h1, h2⟩ := m1_inv hm
    obtain ⟨nt, b1, b2, hb1, hb2, rfl⟩ := S.ok d z h2
    refine SE.seq w e h1 fun G1 H1 v x1 w1 eo1 dv1 => ⟨by show 2 ≤ sizeLine; decide, fun q hq => ?_⟩
    have w2 := w1.alloc (.tup [.ty c1, .ty c2]) hq
    exact ⟨v, q, [.ty c1, .ty c2], _, [.type c1, .type c2], _, rfl, upd_same, .cons (.ty c1) (.cons (.ty c2) .nil), tyX_of w2 (dv1.mono (same_upd _ (w1.free hq))) nt, kit_two hb1 hb2, k _ _ _ (x1.trans w1 (.alloc w1 _ hq)) w2 (.inl (.bl _))⟩
end

/-! ### methods of texts -/
def dSplit : Dt → Dt → Option Dt
  | .str a, .str b => if b.length ≠ 0 ∧ a.length + 2 ≤ line then some (.list ((Txt.split a b).map .str)) else none
  | _, _ => none
def dCount : Dt → Dt → Option Dt
  | .str a, .str b => some (.int (Txt.count a b))
  | _, _ => none
def dJoin : Dt → Dt → Option Dt
  | .str a, .list xs => match strs? xs with
    | some ys => if (ys.map (·.length)).sum + ys.length * a.length ≤ line then some (.str (Txt.join a ys)) else none
    | none => none
  | _, _ => none
def dSIndex : Dt → Dt → Option Dt
  | .str a, .str b => match Builtin.Str.occurrences a b 0 a.length 1 with
    | i :: _ => some (.int (i : Nat))
    | [] => none
  | _, _ => none
theorem strs_dq {G : Hp} : ∀ l : List Str, DqAll G (l.map V.str) (l.map .str)
  | [] => .nil
  | _ :: l => .cons (.str _) (strs_dq l)
def rM1 (f : Dt → Dt → Option Dt) : V → List V → Hp → VK → Prop := fun x xs H Q => ∃ y, xs = [y] ∧ r2 f x y H Q
section
variable {X : Cx} {o e : Expr} {mo me : mE} {apos pos : Pos} {f : Dt → Dt → Option Dt}
theorem mt_splitD : MtR X "str.split" (rM1 dSplit) := by
  intro pins s σ H x xs v us Q I rx rs h
  obtain ⟨y, rfl, T, G, d, e, z, st, w, dx, dy, hf, k⟩ := h
  unfold dSplit at hf
  split at hf
  · rename_i a b
    split at hf
    · rename_i hc
      cases hf
      exact mt_split pins s σ H x _ v us Q I rx rs ⟨a, b, dx.str_, by rw [dy.str_], by simpa using hc.1, by rw [sizeLine_is]; exact hc.2, fun p hp => k.new w hp (strs_dq _)⟩
    · cases hf
  · cases hf
theorem mt_countD : MtR X "str.count" (rM1 dCount) := by
  intro pins s σ H x xs v us Q I rx rs h
  obtain ⟨y, rfl, T, G, d, e, z, st, w, dx, dy, hf, k⟩ := h
  unfold dCount at hf
  split at hf
  · rename_i a b
    cases hf
    exact mt_count pins s σ H x _ v us Q I rx rs ⟨a, b, dx.str_, by rw [dy.str_], k.now w (.inl (.int _))⟩
  · cases hf
theorem mt_joinD : MtR X "str.join" (rM1 dJoin) := by
  intro pins s σ H x xs v us Q I rx rs h
  obtain ⟨y, rfl, T, G, d, e, z, st, w, dx, dy, hf, k⟩ := h
  unfold dJoin at hf
  split at hf
  · rename_i a ds
    split at hf
    · rename_i ys hy
      split at hf
      · rename_i hc
        cases hf
        obtain ⟨p, vs, rfl, hp, hx⟩ := dy.lst_
        have e := strs_of hx hy
        subst e
        exact mt_join pins s σ H x _ v us Q I rx rs ⟨a, p, ys, dx.str_, rfl, .inl (SqL.of (w.sub _ _ hp)), hc, k.now w (.inl (.str _))⟩
      · cases hf
    · cases hf
  · cases hf
theorem mt_sindexD : MtR X "str.index" (rM1 dSIndex) := by
  intro pins s σ H x xs v us Q I rx rs h
  obtain ⟨y, rfl, T, G, d, e, z, st, w, dx, dy, hf, k⟩ := h
  unfold dSIndex at hf
  split at hf
  · rename_i a b
    split at hf
    · rename_i i rest hc
      cases hf
      exact mt_sindex pins s σ H x _ v us Q I rx rs ⟨a, b, i, rest, dx.str_, by rw [dy.str_], hc, k.now w (.inl (.int _))⟩
    · cases hf
  · cases hf
theorem str_first {d e z : Dt} (h : dSplit d e = some z ∨ dCount d e = some z ∨ dJoin d e = some z ∨ dSIndex d e = some z) : ∃ a, d = .str a := by
  cases d <;> first | exact ⟨_, rfl⟩ | (exfalso; rcases h with h | h | h | h <;> cases h)
theorem se_m1 {id : String} {name : Str} (slot : Slot "str" name id) (ty : typeOf (.builtin id) = pure (.type "method_descriptor")) (rule : MtR X id (rM1 f)) (hd : ∀ d e z, f d e = some z → ∃ a, d = .str a) (ho : PE X o (SE mo)) (he : PE X e (SE me))
    (hs : starEach [e] X.env = [(false, eval e X.env)] := by rfl) (hbase : attributeBase o name X.env (eval o X.env) = eval o X.env := by rfl) (hline : (apos.endLine == pos.line) = true := by rfl) : PE X (.Call (.Attribute o name apos) [e] [] pos) (SE (m2 f mo me)) :=
  sim_pe (pe_m1 slot ty rule ho he hs hbase hline) fun σ H Q h => by
    obtain ⟨T, G, env, s, z, s2, w, e, hm, k⟩ := h
    obtain ⟨d, s1, e', h1, h2, h3⟩ := m2_inv hm
    obtain ⟨a, rfl⟩ := hd _ _ _ h3
    exact SE.seq w e h1 fun G1 H1 x x1 w1 e1 dv1 => ⟨⟨a, dv1.str_⟩, SE.seq w1 e1 h2 fun G2 H2 y x2 w2 e2 dv2 =>
      ⟨y, rfl, T, G2, _, e', z, s2, w2, dv1.mono x2.up, dv2, h3, fun G3 H3 v x3 w3 dv3 => k G3 H3 v ((x1.trans w1 x2).trans w2 x3) w3 dv3⟩⟩
theorem se_split (ho : PE X o (SE mo)) (he : PE X e (SE me)) (hs : starEach [e] X.env = [(false, eval e X.env)] := by rfl) (hbase : attributeBase o "split" X.env (eval o X.env) = eval o X.env := by rfl) (hline : (apos.endLine == pos.line) = true := by rfl) :
    PE X (.Call (.Attribute o "split" apos) [e] [] pos) (SE (m2 dSplit mo me)) := se_m1 F.slot_str_split F.type_str_split mt_splitD (fun _ _ _ h => str_first (.inl h)) ho he hs hbase hline
theorem se_count (ho : PE X o (SE mo)) (he : PE X e (SE me)) (hs : starEach [e] X.env = [(false, eval e X.env)] := by rfl) (hbase : attributeBase o "count" X.env (eval o X.env) = eval o X.env := by rfl) (hline : (apos.endLine == pos.line) = true := by rfl) :
    PE X (.Call (.Attribute o "count" apos) [e] [] pos) (SE (m2 dCount mo me)) := se_m1 F.slot_str_count F.type_str_count mt_countD (fun _ _ _ h => str_first (.inr (.inl h))) ho he hs hbase hline
theorem se_join (ho : PE X o (SE mo)) (he : PE X e (SE me)) (hs : starEach [e] X.env = [(false, eval e X.env)] := by rfl) (hbase : attributeBase o "join" X.env (eval o X.env) = eval o X.env := by rfl) (hline : (apos.endLine == pos.line) = true := by rfl) :
    PE X (.Call (.Attribute o "join" apos) [e] [] pos) (SE (m2 dJoin mo me)) := se_m1 F.slot_str_join F.type_str_join mt_joinD (fun _ _ _ h => str_first (.inr (.inr (.inl h)))) ho he hs hbase hline
theorem se_sindex (ho : PE X o (SE mo)) (he : PE X e (SE me)) (hs : starEach [e] X.env = [(false, eval e X.env)] := by rfl) (hbase : attributeBase o "index" X.env (eval o X.env) = eval o X.env := by rfl) (hline : (apos.endLine == pos.line) = true := by rfl) :
    PE X (.Call (.Attribute o "index" apos) [e] [] pos) (SE (m2 dSIndex mo me)) := se_m1 F.slot_str_index F.type_str_index mt_sindexD (fun _ _ _ h => str_first (.inr (.inr (.inr h)))) ho he hs hbase hline
end
end Md
-- Ms1
set_option Elab.async false
set_option linter.all false
set_option maxRecDepth 100000
set_option maxHeartbeats 2000000
/-! list(zip(a, b)), a and b lists or tuples. -/
namespace Mz
open PySem PySem.Spec PyProof.Rows PySem.W
set_option autoImplicit false

section
variable {prog : Program} {w : World} {A : Around} {E : Value → Shared → Prop} {s : Shared} {z TI TO i1 i2 T : Addr} {fp1 fp2 : List Addr} {n1 n2 k : Nat} {P1 P2 : Nat → Value → Prop} {St1 St2 : Nat → Heap → Prop} {f : Bool} {oT : Obj}
/-- next of a zip whose tuple is still out -/
theorem held_item {Q : Value → Shared → Prop} (S : ZipSep2 z TI TO i1 i2 fp1 fp2) (D1 : Draws prog w A i1 fp1 n1 P1 St1) (D2 : Draws prog w A i2 fp2 n2 P2 St2)
    (hz : IsZipHeld s.heap z TI TO T f) (hT : s.heap.get? T = some oT) (hTI : IsTupOf2 s.heap TI (.ref i1) (.ref i2)) (d1 : St1 k s.heap) (d2 : St2 k s.heap) (k1 : k < n1) (k2 : k < n2)
    (hQ : ∀ h' tk x y, IsZipHeld h' z TI TO T true → St1 (k + 1) h' → St2 (k + 1) h' → P1 k x → P2 k y → IsTupOf2 h' s.heap.objs.size x y →
      (∀ c o, c ≠ z → c ≠ i1 → c ≠ i2 → s.heap.get? c = some o → h'.get? c = some o) → Q (.ref s.heap.objs.size) { s with heap := h', toks := tk }) :
    wpAny (model prog w) A (Builtin.«zip.__next__» ⟨[.ref z], []⟩) (fun fin s' => ∃ v, fin = .done (.ret v) ∧ Q v s') E s := by
  obtain ⟨hp, g, d, tk0, os⟩ := s
  show wpAny _ _ (field (.ref z) 2 >>= _) _ _ _
  refine wpAny_bind (wpAny_field hz rfl (x := .bool false) rfl ?_)
  show wpAny _ _ (field (.ref z) 3 >>= _) _ _ _
  refine wpAny_bind (wpAny_field hz rfl (x := .ref TI) rfl ?_)
  refine wpAny_bind (wpAny_seqItems hTI rfl ?_)
  show wpAny _ _ (Builtin.SmallTypes.ownedTupleIsFree (.ref z) >>= _) _ _ _
  refine wpAny_bind (wpAny_tupleHeld_zip hz hT fun g1 hz1 hs1 => ?_)
  replace hs1 : Heap.SameBut z hp g1 := hs1
  simp only [Bool.false_eq_true, if_false]
  refine wpAny_bind ?_
  rw [← Array.forIn_toList]
  simp only [List.forIn_cons, List.forIn_nil]
  refine wpAny_bind (wpAny_bind (wpAny_holding ?_))
  show wpAny _ _ (Builtin.SmallTypes.nextOf (.ref i1) >>= _) _ _ ⟨g1, g, d, tk0, os⟩
  refine wpAny_bind (D1.item k ⟨g1, g, d, tk0, os⟩ _ _ k1 (D1.over d1 hs1 S.zf1) fun x g2 t2 hx sx hs2 => wpAny_pure ?_)
  replace hs2 : Heap.SameBut i1 g1 g2 := hs2
  refine wpAny_pure ?_
  refine wpAny_bind (wpAny_bind (wpAny_holding ?_))
  show wpAny _ _ (Builtin.SmallTypes.nextOf (.ref i2) >>= _) _ _ ⟨g2, g, d, t2, os⟩
  refine wpAny_bind (D2.item k ⟨g2, g, d, t2, os⟩ _ _ k2 (D2.over (D2.over d2 hs1 S.zf2) hs2 S.sep1_2) fun y g3 t3 hy sy hs3 => wpAny_pure ?_)
  replace hs3 : Heap.SameBut i2 g2 g3 := hs3
  refine wpAny_pure (wpAny_pure ?_)
  show wpAny _ _ (newTuple [x, y] >>= _) _ _ ⟨g3, g, d, t3, os⟩
  refine wpAny_bind (wpAny_newTuple ?_)
  have hsz : g3.objs.size = hp.objs.size := by rw [hs3.1, hs2.1, hs1.1]
  have z3 : IsZipHeld g3 z TI TO T true := hs3.extBut _ _ S.zi2 (hs2.extBut _ _ S.zi1 hz1)
  have hk : ∀ c o, c ≠ z → c ≠ i1 → c ≠ i2 → hp.get? c = some o → g3.get? c = some o := fun c o c1 c2 c3 e => hs3.extBut _ _ c3 (hs2.extBut _ _ c2 (hs1.extBut _ _ c1 e))
  have s1 : St1 (k + 1) g3 := D1.over sx hs3 S.sep2_1
  have hp4 : IsTupOf2 (g3.push { cls := .type "tuple", data := .seq #[x, y] }) g3.objs.size x y := Heap.get?_push_size _ rfl
  refine wpAny_pure ⟨_, rfl, ?_⟩
  show Q (.ref g3.objs.size) ⟨g3.push { cls := .type "tuple", data := .seq #[x, y] }, g, d, t3, os⟩
  rw [hsz] at hp4 ⊢
  exact hQ _ t3 x y (Heap.get?_push_of_some _ z3) (D1.frame _ _ _ s1 fun b _ o e => Heap.get?_push_of_some _ e) (D2.frame _ _ _ sy fun b _ o e => Heap.get?_push_of_some _ e) hx hy hp4 fun c o c1 c2 c3 e => Heap.get?_push_of_some _ (hk c o c1 c2 c3 e)
theorem held_end {Q : Fin → Shared → Prop} (S : ZipSep2 z TI TO i1 i2 fp1 fp2) (D1 : Draws prog w A i1 fp1 n1 P1 St1) (D2 : Draws prog w A i2 fp2 n2 P2 St2)
    (hz : IsZipHeld s.heap z TI TO T f) (hT : s.heap.get? T = some oT) (hTI : IsTupOf2 s.heap TI (.ref i1) (.ref i2)) (d1 : St1 k s.heap) (d2 : St2 k s.heap) (k1 : k ≤ n1) (k2 : k ≤ n2) (hend : k = n1 ∨ k = n2)
    (hE : ∀ h' tk e, (∀ c o, c ≠ z → c ≠ i1 → c ≠ i2 → s.heap.get? c = some o → h'.get? c = some o) → (∃ o, h'.get? e = some o ∧ o.cls = .type "StopIteration") → E (.ref e) { s with heap := h', toks := tk }) :
    wpAny (model prog w) A (Builtin.«zip.__next__» ⟨[.ref z], []⟩) Q E s := by
  obtain ⟨hp, g, d, tk0, os⟩ := s
  show wpAny _ _ (field (.ref z) 2 >>= _) _ _ _
  refine wpAny_bind (wpAny_field hz rfl (x := .bool false) rfl ?_)
  show wpAny _ _ (field (.ref z) 3 >>= _) _ _ _
  refine wpAny_bind (wpAny_field hz rfl (x := .ref TI) rfl ?_)
  refine wpAny_bind (wpAny_seqItems hTI rfl ?_)
  show wpAny _ _ (Builtin.SmallTypes.ownedTupleIsFree (.ref z) >>= _) _ _ _
  refine wpAny_bind (wpAny_tupleHeld_zip hz hT fun g1 hz1 hs1 => ?_)
  replace hs1 : Heap.SameBut z hp g1 := hs1
  simp only [Bool.false_eq_true, if_false]
  refine wpAny_bind ?_
  rw [← Array.forIn_toList]
  simp only [List.forIn_cons, List.forIn_nil]
  refine wpAny_bind (wpAny_bind (wpAny_holding ?_))
  show wpAny _ _ (Builtin.SmallTypes.nextOf (.ref i1) >>= _) _ _ ⟨g1, g, d, tk0, os⟩
  by_cases c1 : k < n1
  · refine wpAny_bind (D1.item k ⟨g1, g, d, tk0, os⟩ _ _ c1 (D1.over d1 hs1 S.zf1) fun x g2 t2 hx sx hs2 => wpAny_pure ?_)
    replace hs2 : Heap.SameBut i1 g1 g2 := hs2
    have e2 : k = n2 := by omega
    refine wpAny_pure ?_
    refine wpAny_bind (wpAny_bind (wpAny_holding ?_))
    show wpAny _ _ (Builtin.SmallTypes.nextOf (.ref i2) >>= _) _ _ ⟨g2, g, d, t2, os⟩
    refine wpAny_bind (D2.done ⟨g2, g, d, t2, os⟩ _ _ (by rw [← e2]; exact D2.over (D2.over d2 hs1 S.zf2) hs2 S.sep1_2) fun q e hq he => ?_)
    exact hE q t2 e (fun c o c1 c2 c3 x => hq _ _ c3 (hs2.extBut _ _ c2 (hs1.extBut _ _ c1 x))) he
  · have e1 : k = n1 := by omega
    refine wpAny_bind (D1.done ⟨g1, g, d, tk0, os⟩ _ _ (by rw [← e1]; exact D1.over d1 hs1 S.zf1) fun q e hq he => ?_)
    exact hE q tk0 e (fun c o c1 c2 _ x => hq _ _ c2 (hs1.extBut _ _ c1 x)) he
theorem pyNext_held {Q : Option Value → Shared → Prop} (S : ZipSep2 z TI TO i1 i2 fp1 fp2) (D1 : Draws prog w A.in1 i1 fp1 n1 P1 St1) (D2 : Draws prog w A.in1 i2 fp2 n2 P2 St2)
    (hz : IsZipHeld s.heap z TI TO T f) (hT : s.heap.get? T = some oT) (hTI : IsTupOf2 s.heap TI (.ref i1) (.ref i2)) (d1 : St1 k s.heap) (d2 : St2 k s.heap) (k1 : k < n1) (k2 : k < n2)
    (hQ : ∀ h' tk x y, IsZipHeld h' z TI TO T true → St1 (k + 1) h' → St2 (k + 1) h' → P1 k x → P2 k y → IsTupOf2 h' s.heap.objs.size x y →
      (∀ c o, c ≠ z → c ≠ i1 → c ≠ i2 → s.heap.get? c = some o → h'.get? c = some o) → Q (some (.ref s.heap.objs.size)) { s with heap := h', toks := tk }) : wpAny (model prog w) A (pyNext (.ref z)) Q E s := by
  have ty : s.TypeIs (.ref z) "zip" := ⟨_, hz, rfl⟩
  unfold pyNext
  refine wpAny_bind (wpAny_attempt (wpAny_callSpecial?_slot (name := Str.ofString "__next__") ty F.slot_zip_next (wpAny_call_entry F.slot_zip_next ty F.entry_zip_next ?_ (F.args_zip_next_1 _))))
  exact held_item S D1 D2 hz hT hTI d1 d2 k1 k2 fun h' tk x y a1 a2 a3 a4 a5 a6 a7 => wpAny_pure (hQ h' tk x y a1 a2 a3 a4 a5 a6 a7)
theorem pyNext_heldEnd {Q : Option Value → Shared → Prop} (S : ZipSep2 z TI TO i1 i2 fp1 fp2) (D1 : Draws prog w A.in1 i1 fp1 n1 P1 St1) (D2 : Draws prog w A.in1 i2 fp2 n2 P2 St2)
    (hz : IsZipHeld s.heap z TI TO T f) (hT : s.heap.get? T = some oT) (hTI : IsTupOf2 s.heap TI (.ref i1) (.ref i2)) (d1 : St1 k s.heap) (d2 : St2 k s.heap) (k1 : k ≤ n1) (k2 : k ≤ n2) (hend : k = n1 ∨ k = n2)
    (hQ : ∀ h' tk, (∀ c o, c ≠ z → c ≠ i1 → c ≠ i2 → s.heap.get? c = some o → h'.get? c = some o) → Q none { s with heap := h', toks := tk }) : wpAny (model prog w) A (pyNext (.ref z)) Q E s := by
  have ty : s.TypeIs (.ref z) "zip" := ⟨_, hz, rfl⟩
  unfold pyNext
  refine wpAny_bind (wpAny_attempt (wpAny_callSpecial?_slot (name := Str.ofString "__next__") ty F.slot_zip_next (wpAny_call_entry F.slot_zip_next ty F.entry_zip_next ?_ (F.args_zip_next_1 _))))
  refine held_end S D1 D2 hz hT hTI d1 d2 k1 k2 hend fun h' tk e hk he => ?_
  obtain ⟨o, ho, hc⟩ := he
  refine wpAny_bind (wpAny_isInstance (T := "StopIteration") (b := true) ⟨o, ho, hc⟩ isSubtype_stop ?_)
  exact wpAny_pure (hQ _ _ hk)

/-- the walk of list.extend over a zip: k pairs have come -/
structure Ext2 (hB : Heap) (N : Nat) (z TI TO i1 i2 Lo : Addr) (P1 P2 : Nat → Value → Prop) (St1 St2 : Nat → Heap → Prop) (k : Nat) (h : Heap) (acc : Array Value) (c : Nat) : Prop where
  zi : IsZip h z TI TO .none ∧ IsTupOf2 h TO .none .none ∨ ∃ T f oT, IsZipHeld h z TI TO T f ∧ h.get? T = some oT ∧ N ≤ T
  ti : IsTupOf2 h TI (.ref i1) (.ref i2)
  d1 : St1 k h
  d2 : St2 k h
  lo : h.get? Lo = some { cls := .type "list", data := .seq acc c }
  sz : acc.size = k
  pr : ∀ (j : Nat) v, acc[j]? = some v → ∃ t x y, v = .ref t ∧ N ≤ t ∧ IsTupOf2 h t x y ∧ P1 j x ∧ P2 j y
  old : ∀ b o, hB.get? b = some o → h.get? b = some o
  ln : N ≤ h.objs.size
  nd : ∀ (i j : Nat) v, acc[i]? = some v → acc[j]? = some v → i = j
structure Sep5 (hB : Heap) (N : Nat) (z TI TO i1 i2 Lo : Addr) (fp1 fp2 : List Addr) : Prop where
  s : ZipSep2 z TI TO i1 i2 fp1 fp2
  l1 : Lo ∉ fp1
  l2 : Lo ∉ fp2
  lz : Lo ≠ z
  lT : Lo ≠ TI
  lO : Lo ≠ TO
  n : z < N ∧ TO < N ∧ i1 < N ∧ i2 < N ∧ Lo < N
  b : hB.objs.size ≤ z ∧ hB.objs.size ≤ TO ∧ hB.objs.size ≤ i1 ∧ hB.objs.size ≤ i2 ∧ hB.objs.size ≤ Lo

/-- what list(zip(..)) leaves -/
structure Out2 (hB : Heap) (Lo : Addr) (n : Nat) (P1 P2 : Nat → Value → Prop) (h : Heap) (acc : Array Value) (c : Nat) : Prop where
  lo : h.get? Lo = some { cls := .type "list", data := .seq acc c }
  sz : acc.size = n
  pr : ∀ (j : Nat) v, acc[j]? = some v → ∃ t x y, v = .ref t ∧ hB.objs.size ≤ t ∧ IsTupOf2 h t x y ∧ P1 j x ∧ P2 j y
  old : ∀ b o, hB.get? b = some o → h.get? b = some o
  nd : ∀ (i j : Nat) v, acc[i]? = some v → acc[j]? = some v → i = j

theorem extend_zip {R : Result → Shared → Prop} {hB : Heap} {N : Nat} {Lo : Addr} (V : Sep5 hB N z TI TO i1 i2 Lo fp1 fp2) (D1 : Draws prog w A.in1.in1 i1 fp1 n1 P1 St1) (D2 : Draws prog w A.in1.in1 i2 fp2 n2 P2 St2) (res : Value) (hn : min n1 n2 ≤ sizeLine) :
    ∀ (m k : Nat) (s : Shared) (acc : Array Value) (c : Nat), min n1 n2 - k = m → k ≤ min n1 n2 → Ext2 hB N z TI TO i1 i2 Lo P1 P2 St1 St2 k s.heap acc c →
      (∀ h' tk acc' c', Out2 hB Lo (min n1 n2) P1 P2 h' acc' c' → R (.ok (.ret res)) { s with heap := h', toks := tk }) →
      codeAny (model prog w) A (.builtin "list.extend.loop" ⟨[.ref Lo, .ref z, res], []⟩) R s := by
  have S := V.s
  have L1 : Lo ≠ i1 := fun e => V.l1 (e ▸ S.mem1)
  have L2 : Lo ≠ i2 := fun e => V.l2 (e ▸ S.mem2)
  obtain ⟨v1, v2, v3, v4, v5⟩ := V.n
  obtain ⟨u1, u2, u3, u4, u5⟩ := V.b
  have far : ∀ {t : Addr}, N ≤ t → t ≠ z ∧ t ≠ TO ∧ t ≠ i1 ∧ t ≠ i2 ∧ t ≠ Lo := fun {t} h => ⟨Nat.ne_of_gt (Nat.lt_of_lt_of_le v1 h), Nat.ne_of_gt (Nat.lt_of_lt_of_le v2 h), Nat.ne_of_gt (Nat.lt_of_lt_of_le v3 h), Nat.ne_of_gt (Nat.lt_of_lt_of_le v4 h), Nat.ne_of_gt (Nat.lt_of_lt_of_le v5 h)⟩
  have near : ∀ {b : Addr} {o : Obj}, hB.get? b = some o → b ≠ z ∧ b ≠ TO ∧ b ≠ i1 ∧ b ≠ i2 ∧ b ≠ Lo := fun {b o} e => by
    have q := Heap.lt_size e
    exact ⟨Nat.ne_of_lt (Nat.lt_of_lt_of_le q u1), Nat.ne_of_lt (Nat.lt_of_lt_of_le q u2), Nat.ne_of_lt (Nat.lt_of_lt_of_le q u3), Nat.ne_of_lt (Nat.lt_of_lt_of_le q u4), Nat.ne_of_lt (Nat.lt_of_lt_of_le q u5)⟩
  have hBN : hB.objs.size ≤ N := Nat.le_trans u1 (Nat.le_of_lt v1)
  clear u1 u2 u3 u4 u5 v1 v2 v3 v4 v5
  intro m
  induction m with
  | zero =>
    intro k s acc c hm hk X hR
    have hkn : k = min n1 n2 := by omega
    refine codeAny_builtin F.entry_extend_loop ?_
    rw [Around.under_plainId F.plain_extend_loop _]
    show wpAny _ A.in1 (pyNext (.ref z) >>= _) _ _ s
    have fin : ∀ h' tk, (∀ c o, c ≠ z → c ≠ TO → c ≠ i1 → c ≠ i2 → s.heap.get? c = some o → h'.get? c = some o) → R (.ok (.ret res)) { s with heap := h', toks := tk } := fun h' tk hk => by
      refine hR h' tk acc c ⟨hk _ _ V.lz V.lO L1 L2 X.lo, by rw [X.sz, hkn], fun j v e => ?_, fun b o e => ?_, X.nd⟩
      · obtain ⟨t, x, y, a1, a2, a3, a4, a5⟩ := X.pr j v e
        obtain ⟨q1, q2, q3, q4, q5⟩ := far a2
        exact ⟨t, x, y, a1, Nat.le_trans hBN a2, hk _ _ q1 q2 q3 q4 a3, a4, a5⟩
      · obtain ⟨q1, q2, q3, q4, q5⟩ := near e
        exact hk _ _ q1 q2 q3 q4 (X.old b o e)
    rcases X.zi with ⟨hz, hTO⟩ | ⟨T, f, oT, hz, hT, hNT⟩
    · refine wpAny_bind (wpAny_pyNext_zipD2_end S D1 D2 hz X.ti hTO X.d1 X.d2 (by omega) (by omega) (by omega) fun h' tk hk => ?_)
      exact wpAny_pure (fin h' tk hk)
    · refine wpAny_bind (pyNext_heldEnd S D1 D2 hz hT X.ti X.d1 X.d2 (by omega) (by omega) (by omega) fun h' tk hk => ?_)
      exact wpAny_pure (fin h' tk fun c o a1 _ a3 a4 e => hk c o a1 a3 a4 e)
  | succ m ih =>
    intro k s acc c hm hk X hR
    refine codeAny_builtin F.entry_extend_loop ?_
    rw [Around.under_plainId F.plain_extend_loop _]
    show wpAny _ A.in1 (pyNext (.ref z) >>= _) _ _ s
    have step : ∀ (h' : Heap) (tk : Nat) (x y : Value) (f : Bool) (T : Addr) (oT : Obj), IsZipHeld h' z TI TO T f → h'.get? T = some oT → N ≤ T → St1 (k + 1) h' → St2 (k + 1) h' → P1 k x → P2 k y → IsTupOf2 h' s.heap.objs.size x y →
        (∀ c o, c ≠ z → c ≠ TO → c ≠ i1 → c ≠ i2 → s.heap.get? c = some o → h'.get? c = some o) →
        wpAny (model prog w) A.in1 (updateSeq Lo (·.push (.ref s.heap.objs.size)) >>= fun _ => again (.builtin "list.extend.loop" ⟨[.ref Lo, .ref z, res], []⟩))
          (fun fin s' => match fin with | .done f => R (.ok f) s' | .again c' => c'.quiet = true ∧ codeAny (model prog w) A c' R s') (fun e s' => R (.error e) s') { s with heap := h', toks := tk } := by
      intro h' tk x y f T oT hz' hTT hNT e1 e2 p1 p2 hT hk'
      have hLo : h'.get? Lo = some { cls := .type "list", data := .seq acc c } := hk' _ _ V.lz V.lO L1 L2 X.lo
      refine wpAny_bind ?_
      have hLo2 := Heap.get?_update_self (Obj.mapSeq (·.push (.ref s.heap.objs.size))) hLo rfl
      refine wpAny_updateSeq hLo rfl (wpAny_pure ⟨plainId_quiet F.plain_extend_loop _, ih (k + 1) _ (acc.push (.ref s.heap.objs.size)) (if (acc.push (.ref s.heap.objs.size)).size == acc.size then c else c + 1) (by omega) (by omega) ?_ hR⟩) (by rw [X.sz]; omega) (by show (acc.push _).size ≤ sizeLine + 1; rw [Array.size_push, X.sz]; omega)
      have up : ∀ b o, b ≠ Lo → h'.get? b = some o → (h'.update Lo (Obj.mapSeq (·.push (.ref s.heap.objs.size)))).get? b = some o := fun b o hb e => (Heap.get?_update_other _ _ (Ne.symm hb)).trans e
      have hNs : N ≤ s.heap.objs.size := X.ln
      obtain ⟨f1, f2, f3, f4, f5⟩ := far hNs
      have hT2 := up _ _ f5 hT
      refine ⟨.inr ⟨T, f, _, up _ _ V.lz.symm hz', up _ _ (far hNT).2.2.2.2 hTT, hNT⟩, up _ _ V.lT.symm (hk' _ _ S.TIz S.TITO S.TIi1 S.TIi2 X.ti), D1.frame _ _ _ e1 fun b hb o e => up b o (fun q => V.l1 (q ▸ hb)) e, D2.frame _ _ _ e2 fun b hb o e => up b o (fun q => V.l2 (q ▸ hb)) e, hLo2, by rw [Array.size_push, X.sz], fun j v e => ?_, fun b o e => ?_, ?_, fun i j v ei ej => ?_⟩
      · rw [Array.getElem?_push] at e
        split at e
        · rename_i cc
          cases e
          rw [X.sz] at cc
          subst cc
          exact ⟨_, x, y, rfl, hNs, hT2, p1, p2⟩
        · obtain ⟨t, x', y', a1, a2, a3, a4, a5⟩ := X.pr j v e
          obtain ⟨q1, q2, q3, q4, q5⟩ := far a2
          exact ⟨t, x', y', a1, a2, up _ _ q5 (hk' _ _ q1 q2 q3 q4 a3), a4, a5⟩
      · obtain ⟨q1, q2, q3, q4, q5⟩ := near e
        exact up _ _ q5 (hk' _ _ q1 q2 q3 q4 (X.old b o e))
      · exact Nat.le_of_lt (Nat.lt_of_le_of_lt hNs (Heap.lt_size hT2))
      · have low : ∀ (i : Nat) v, acc[i]? = some v → v ≠ .ref s.heap.objs.size := fun i v e z => by
          obtain ⟨t, x', y', a1, _, a3, _⟩ := X.pr i v e
          rw [a1] at z
          injection z with z
          have q := Heap.lt_size a3
          rw [z] at q
          exact Nat.lt_irrefl _ q
        rw [Array.getElem?_push] at ei ej
        split at ei
        · split at ej
          · rename_i c1 c2
            rw [c1, c2]
          · cases ei
            exact absurd rfl (low j _ ej)
        · split at ej
          · cases ej
            exact absurd rfl (low i _ ei)
          · exact X.nd i j v ei ej
    rcases X.zi with ⟨hz, hTO⟩ | ⟨T, f, oT, hz, hT, hNT⟩
    · refine wpAny_bind (wpAny_pyNext_zipD2_item S D1 D2 hz X.ti hTO X.d1 X.d2 (by omega) (by omega) fun x y h' tk p1 p2 b1 b2 e1 e2 b5 b6 b7 => ?_)
      exact step h' tk x y false _ _ b1 b5 X.ln e1 e2 p1 p2 b5 b7
    · refine wpAny_bind (pyNext_held S D1 D2 hz hT X.ti X.d1 X.d2 (by omega) (by omega) fun h' tk x y b1 e1 e2 p1 p2 b5 b7 => ?_)
      exact step h' tk x y true T oT b1 (b7 T oT (far hNT).1 (far hNT).2.2.1 (far hNT).2.2.2.1 hT) hNT e1 e2 p1 p2 b5 fun c o a1 _ a3 a4 e => b7 c o a1 a3 a4 e

theorem zip_len_no : typeLookup (.type "zip") "__len__" = pure none := am_miss_of_fast (by decide +kernel)
theorem zip_hint_no : typeLookup (.type "zip") "__length_hint__" = pure none := am_miss_of_fast (by decide +kernel)
/-- list(z), z a fresh zip -/
theorem call_list_zip {Q : Value → Shared → Prop} {hB : Heap} (S : ZipSep2 z TI TO i1 i2 fp1 fp2) (D1 : Draws prog w A.in1.in1.in1 i1 fp1 n1 P1 St1) (D2 : Draws prog w A.in1.in1.in1 i2 fp2 n2 P2 St2)
    (hb : hB.objs.size ≤ z ∧ hB.objs.size ≤ TO ∧ hB.objs.size ≤ i1 ∧ hB.objs.size ≤ i2) (hn : z < s.heap.objs.size ∧ TO < s.heap.objs.size ∧ i1 < s.heap.objs.size ∧ i2 < s.heap.objs.size) (hf1 : ∀ b ∈ fp1, b < s.heap.objs.size) (hf2 : ∀ b ∈ fp2, b < s.heap.objs.size)
    (hz : IsZip s.heap z TI TO .none) (hTO : IsTupOf2 s.heap TO .none .none) (hTI : IsTupOf2 s.heap TI (.ref i1) (.ref i2)) (d1 : St1 0 s.heap) (d2 : St2 0 s.heap) (old : ∀ b o, hB.get? b = some o → s.heap.get? b = some o) (hl : min n1 n2 ≤ sizeLine)
    (hQ : ∀ h' tk acc c, Out2 hB s.heap.objs.size (min n1 n2) P1 P2 h' acc c → Q (.ref s.heap.objs.size) { s with heap := h', toks := tk }) :
    wpAny (model prog w) A (call (.type "list") [.ref z]) Q E s := by
  obtain ⟨n3, n4, n5, n6⟩ := hn
  obtain ⟨b3, b4, b5, b6⟩ := hb
  refine callType_codes (Q₁ := fun obj s₁ => obj = .ref s.heap.objs.size ∧ s₁ = { s with heap := s.heap.push { cls := .type "list", data := .seq #[] } }) PySem.F.called_list (PySem.F.typeCall_list_1 _) PySem.F.entry_list_init
    (code_list_new _ ⟨rfl, rfl⟩) fun obj s₁ h₁ => ?_
  obtain ⟨rfl, rfl⟩ := h₁
  have g0 : (s.heap.push { cls := .type "list", data := .seq #[] }).get? s.heap.objs.size = some { cls := .type "list", data := .seq #[] } := Heap.get?_push_size _ rfl
  have hBs : hB.objs.size ≤ s.heap.objs.size := Nat.le_trans b3 (Nat.le_of_lt n3)
  have hlz : s.heap.objs.size ≠ z := Nat.ne_of_gt n3
  have hlT : s.heap.objs.size ≠ TI := Nat.ne_of_gt (Heap.lt_size hTI)
  refine ⟨⟨_, g0, rfl⟩, PySem.F.args_list_init_2 _ _, ?_⟩
  show wpAny _ _ (do let old ← Builtin.List.listItems (.ref s.heap.objs.size); Builtin.List.listUpdate (.ref s.heap.objs.size) (fun _ => #[]); letGo old.toList.reverse; Builtin.List.listExtendWith (.ref s.heap.objs.size) (.ref z) .none) _ _ _
  refine wpAny_bind ?_
  unfold Builtin.List.listItems
  refine wpAny_bind (wpAny_seqItems g0 rfl (wpAny_pure ?_))
  show wpAny _ _ (updateSeq s.heap.objs.size (fun _ => #[]) >>= fun _ => letGo (#[] : Array Value).toList.reverse >>= fun _ => Builtin.List.listExtendWith (.ref s.heap.objs.size) (.ref z) .none) _ _ _
  refine wpAny_bind (wpAny_updateSeq g0 rfl ?_)
  have g1 := Heap.get?_update_self (Obj.mapSeq (fun _ => (#[] : Array Value))) g0 rfl
  have up1 : ∀ b o, s.heap.get? b = some o → ((s.heap.push { cls := .type "list", data := .seq #[] }).update s.heap.objs.size (Obj.mapSeq (fun _ => (#[] : Array Value)))).get? b = some o :=
    fun b o e => (Heap.get?_update_other _ _ (Nat.ne_of_gt (Heap.lt_size e))).trans (Heap.get?_push_of_some _ e)
  have sz1 : ((s.heap.push { cls := .type "list", data := .seq #[] }).update s.heap.objs.size (Obj.mapSeq (fun _ => (#[] : Array Value)))).objs.size = s.heap.objs.size + 1 := by rw [Heap.size_update, Heap.size_push]
  generalize (s.heap.push { cls := .type "list", data := .seq #[] }).update s.heap.objs.size (Obj.mapSeq (fun _ => (#[] : Array Value))) = h1 at g1 up1 sz1 ⊢
  refine wpAny_bind (wpAny_letGo ?_)
  have tz : ∀ (g : Heap), IsZip g z TI TO .none → Shared.TypeIs { s with heap := g } (.ref z) "zip" := fun g e => ⟨_, e, rfl⟩
  have z1 := up1 _ _ hz
  unfold Builtin.List.listExtendWith
  refine wpAny_bind (wpAny_typeOf (tz h1 z1) ?_)
  have k1 : Builtin.List.listSameRef (.ref s.heap.objs.size) (.ref z) = false := by simp [Builtin.List.listSameRef, hlz]
  have k2 : (Value.type "zip" == Value.type "list") = false := by decide
  have k3 : (Value.type "zip" == Value.type "tuple") = false := by decide
  simp only [k1, k2, k3, Bool.or_false, Bool.false_eq_true, if_false]
  refine wpAny_bind (wpAny_pyIter_zip z1 ?_)
  refine wpAny_bind (wpAny_holding ?_)
  unfold Builtin.List.listLengthHint
  refine wpAny_bind (wpAny_specialOf (tz h1 z1) zip_len_no ?_)
  show wpAny _ _ (specialOf (Value.ref z) (Str.ofString "__length_hint__") >>= _) _ _ _
  refine wpAny_bind (wpAny_specialOf (tz h1 z1) zip_hint_no ?_)
  refine wpAny_pure ?_
  show wpAny _ _ (rule "list.extend.makes-room" >>= fun _ => Builtin.List.listTouch (.ref s.heap.objs.size) >>= fun _ =>
    again (.builtin "list.extend.loop" ⟨[.ref s.heap.objs.size, .ref z, .none], []⟩)) _ _ _
  refine wpAny_bind (wpAny_rule ?_)
  refine wpAny_bind ?_
  show wpAny _ _ (updateSeq s.heap.objs.size (·.push .none) >>= fun _ => updateSeq s.heap.objs.size (·.pop)) _ _ _
  refine wpAny_bind (wpAny_updateSeq g1 rfl ?_)
  have g2 := Heap.get?_update_self (Obj.mapSeq (·.push Value.none)) g1 rfl
  refine wpAny_updateSeq (hz := by seq_fits) g2 rfl ?_
  have g3 := Heap.get?_update_self (Obj.mapSeq (·.pop)) g2 rfl
  have up3 : ∀ b o, s.heap.get? b = some o → ((h1.update s.heap.objs.size (Obj.mapSeq (·.push Value.none))).update s.heap.objs.size (Obj.mapSeq (·.pop))).get? b = some o := fun b o e =>
    (Heap.get?_update_other _ _ (Nat.ne_of_gt (Heap.lt_size e))).trans ((Heap.get?_update_other _ _ (Nat.ne_of_gt (Heap.lt_size e))).trans (up1 b o e))
  have sz3 : ((h1.update s.heap.objs.size (Obj.mapSeq (·.push Value.none))).update s.heap.objs.size (Obj.mapSeq (·.pop))).objs.size = s.heap.objs.size + 1 := by rw [Heap.size_update, Heap.size_update, sz1]
  have fr1 := D1.frame 0 _ _ d1 fun b _ o e => up3 b o e
  have fr2 := D2.frame 0 _ _ d2 fun b _ o e => up3 b o e
  generalize (h1.update s.heap.objs.size (Obj.mapSeq (·.push Value.none))).update s.heap.objs.size (Obj.mapSeq (·.pop)) = h3 at g3 up3 sz3 fr1 fr2 ⊢
  refine wpAny_pure ⟨plainId_quiet F.plain_extend_loop _, ?_⟩
  refine extend_zip (A := A.in1) (hB := hB) (N := s.heap.objs.size + 1) ⟨S, fun m => Nat.lt_irrefl _ (hf1 _ m), fun m => Nat.lt_irrefl _ (hf2 _ m), hlz, hlT, Nat.ne_of_gt n4, ⟨Nat.lt_succ_of_lt n3, Nat.lt_succ_of_lt n4, Nat.lt_succ_of_lt n5, Nat.lt_succ_of_lt n6, Nat.lt_succ_self _⟩, ⟨b3, b4, b5, b6, hBs⟩⟩ D1 D2 .none hl (min n1 n2) 0 _ #[] _ rfl (Nat.zero_le _)
    ⟨.inl ⟨up3 _ _ hz, up3 _ _ hTO⟩, up3 _ _ hTI, fr1, fr2, g3, rfl, fun j v e => by simp at e, fun b o e => up3 b o (old b o e), Nat.le_of_eq sz3.symm, fun i j v e => by simp at e⟩ fun h' tk acc' c' hx => ?_
  exact ⟨rfl, hQ h' tk acc' c' hx⟩
end
end Mz
-- Ms2
set_option Elab.async false
set_option linter.all false
set_option maxRecDepth 100000
set_option maxHeartbeats 2000000
/-! list(zip(a, b)) in the simulation. -/
namespace Md
open PySem PySem.Spec PyProof.Rows L2
set_option autoImplicit false
/-- the tracked heap, with what lies from N on -/
def hadd (H : Hp) (N : Nat) (f : Hp) : Hp := fun b => if N ≤ b then f b else H b
theorem hadd_ge {H f : Hp} {N b : Nat} (h : N ≤ b) : hadd H N f b = f b := if_pos h
theorem hadd_lt {H f : Hp} {N b : Nat} (h : b < N) : hadd H N f b = H b := if_neg (Nat.not_le_of_lt h)
section
variable {P : Program} {w : World} {H f : Hp} {h h' : Heap} {N : Nat}
theorem hadd_some (x : ∀ b o, H b = some o → b < N) {b : Addr} {o : HO} (e : H b = some o) : hadd H N f b = some o := (hadd_lt (x b o e)).trans e
theorem hok_many (x : HOk P w H h) (k : ∀ b u, h.get? b = some u → h'.get? b = some u) (new : ∀ b o, h.objs.size ≤ b → f b = some o → ObjOk P w (hadd H h.objs.size f) h' b o) : HOk P w (hadd H h.objs.size f) h' := fun b u e => by
  have lt : ∀ b o, H b = some o → b < h.objs.size := fun b o e => x.lt e
  by_cases hb : h.objs.size ≤ b
  · rw [hadd_ge hb] at e
    exact new b u hb e
  · rw [hadd_lt (Nat.lt_of_not_le hb)] at e
    exact (x b u e).stay (fun c v _ q => k c v q) (fun c q => hadd_some lt q) fun c xs q => hadd_some lt q
theorem un_many {fs ex : List Addr} (x : HOk P w H h) (k : ∀ b u, h.get? b = some u → h'.get? b = some u) : Un fs ex H (hadd H h.objs.size f) h h' where
  keep := fun b u q _ _ _ => k b u q
  slot := fun b u q _ _ _ => ⟨u.slots, k b u q⟩
  free := fun b u q n _ => by rw [hadd_lt (Heap.lt_size q)]; exact n
  there := fun b u q _ => ⟨u, k b u q⟩
  tups := fun b xs q => hadd_some (fun b o e => x.lt e) q
  frzs := fun b u xs q => hadd_some (fun b o e => x.lt e) q
  tbls := fun b ps q => ⟨#[], by rw [hadd_some (fun b o e => x.lt e) q]; simp⟩
end
theorem Inv_many {X : Cx} {pins : List (Addr × Obj)} {σ : L2.St} {H f : Hp} {s : Shared} {h' : Heap} {t' : Nat} (I : Inv X pins σ H s) (k : ∀ b u, s.heap.get? b = some u → h'.get? b = some u)
    (new : ∀ b o, s.heap.objs.size ≤ b → f b = some o → ObjOk X.prog X.w (hadd H s.heap.objs.size f) h' b o) : Inv X pins σ (hadd H s.heap.objs.size f) { s with heap := h', toks := t' } :=
  I.un (un_many I.hok k) (hok_many I.hok k new)
section
variable {T : Tm} {s : Tn} {G H f : Hp} {N : Nat}
theorem ext_many (w : Wd T s G H) (x : ∀ b o, H b = some o → b < N) : Ext T G H (hadd G N f) (hadd H N f) :=
  ⟨fun b o e _ => hadd_some x e, fun b o e => hadd_some (fun b o e => x b o (w.sub b o e)) e, fun b o e n => by rw [hadd_lt (x b o e)]; exact n⟩
theorem wd_many (w : Wd T s G H) (x : ∀ b o, H b = some o → b < N) : Wd T s (hadd G N f) (hadd H N f) :=
  ⟨fun b o e => by
    by_cases hb : N ≤ b
    · rw [hadd_ge hb] at e ⊢
      exact e
    · rw [hadd_lt (Nat.lt_of_not_le hb)] at e
      exact hadd_some x (w.sub b o e), fun p hp => by
    obtain ⟨h1, h2⟩ := w.tin p hp
    exact ⟨hadd_some x h1, by rw [hadd_lt (x p _ h1)]; exact h2⟩⟩
end

/-- list(zip(a, b)) -/
def rListZip (K : PySem.W.Frag) : List V → Hp → VK → Prop := fun vs H Q => ∃ (l1 l2 : Addr) (xs ys : List V), vs = [V.ref l1, V.ref l2] ∧ ((SqL K H l1 xs ∧ SqL K H l2 ys) ∨ (SqT K H l1 xs ∧ SqT K H l2 ys)) ∧
  ∀ (N : Nat) (f : Hp) (Lo : Addr) (ts : List Addr), (∀ b o, H b = some o → b < N) → N ≤ Lo → f Lo = some (.lst (ts.map V.ref)) → ts.length = min xs.length ys.length →
    (∀ (j : Nat) t, ts[j]? = some t → N ≤ t ∧ ∃ x y, xs[j]? = some x ∧ ys[j]? = some y ∧ f t = some (.tup [x, y])) → Q (.ref Lo) (hadd H N f)
section
variable {X : Cx} {pins : List (Addr × Obj)} {σ : L2.St} {H : Hp} {s : Shared}
theorem vals_get : ∀ {xs : List V} {us : List Value} {j : Nat} {u : Value}, Vals xs us → us[j]? = some u → ∃ x, xs[j]? = some x ∧ RelV x u
  | _, _, _, _, .nil, e => by simp at e
  | _, _, 0, _, .cons r _, e => by
    simp at e
    subst e
    exact ⟨_, rfl, r⟩
  | _, _, j + 1, u, .cons _ t, e => by
    obtain ⟨x, h1, h2⟩ := vals_get (j := j) (u := u) t (by simpa using e)
    exact ⟨x, by simpa using h1, h2⟩
theorem lookup_at {f : Nat → HO} : ∀ (ts : List Addr) (n : Nat) (b : Addr) (o : HO), ((ts.zipIdx n).map fun p => (p.1, f p.2)).lookup b = some o → ∃ j, ts[j]? = some b ∧ o = f (n + j)
  | [], _, _, _, h => by simp at h
  | t :: ts, n, b, o, h => by
    rw [List.zipIdx_cons, List.map_cons, List.lookup_cons] at h
    split at h
    · rename_i c
      refine ⟨0, ?_, ?_⟩
      · rw [eq_of_beq c] <;> rfl
      · exact (Option.some.inj h).symm
    · obtain ⟨j, h1, h2⟩ := lookup_at ts (n + 1) b o h
      exact ⟨j + 1, by simpa using h1, by rw [h2]; congr 1; omega⟩
theorem lookup_of {f : Nat → HO} : ∀ (ts : List Addr) (n j : Nat) (b : Addr), ts.Nodup → ts[j]? = some b → ((ts.zipIdx n).map fun p => (p.1, f p.2)).lookup b = some (f (n + j))
  | [], _, _, _, _, h => by simp at h
  | t :: ts, n, 0, b, _, h => by
    simp at h
    subst h
    rw [List.zipIdx_cons, List.map_cons, List.lookup_cons]
    simp
  | t :: ts, n, j + 1, b, hn, h => by
    obtain ⟨h1, h2⟩ := List.nodup_cons.mp hn
    have h' : ts[j]? = some b := by simpa using h
    have hne : (b == t) = false := beq_eq_false_iff_ne.mpr fun e => h1 (e ▸ List.mem_of_getElem? h')
    rw [List.zipIdx_cons, List.map_cons, List.lookup_cons]
    simp only [hne]
    rw [lookup_of ts (n + 1) j b h2 h']
    congr 2
    omega
/-- the end of it: what stands is tracked -/
theorem zip_track (I : Inv X pins σ H s) {xs ys : List V} {us vs : List Value} (r1 : Vals xs us) (r2 : Vals ys vs) {h' : Heap} {tk Lo : Nat} {acc : Array Value} {c : Nat} (hLo : s.heap.objs.size ≤ Lo) (hx : xs.length ≤ sizeLine)
    (o : Mz.Out2 s.heap Lo (min us.toArray.size vs.toArray.size) (fun i v => us.toArray[i]? = some v) (fun i v => vs.toArray[i]? = some v) h' acc c)
    {Q : VK} (h : ∀ (f : Hp) (ts : List Addr), f Lo = some (.lst (ts.map V.ref)) → ts.length = min xs.length ys.length →
    (∀ (j : Nat) t, ts[j]? = some t → s.heap.objs.size ≤ t ∧ ∃ x y, xs[j]? = some x ∧ ys[j]? = some y ∧ f t = some (.tup [x, y])) → Q (.ref Lo) (hadd H s.heap.objs.size f)) :
    ∃ H', Inv X pins σ H' { s with heap := h', toks := tk } ∧ Q (.ref Lo) H' := by
  have hacc : ∀ v ∈ acc.toList, ∃ a, v = Value.ref a := fun v hv => by
    obtain ⟨j, hj, e⟩ := List.getElem_of_mem hv
    have e2 : acc[j]? = some v := by rw [← Array.getElem?_toList, List.getElem?_eq_getElem hj, e]
    obtain ⟨t, _, _, h1, _⟩ := o.pr j v e2
    exact ⟨t, h1⟩
  have hex : ∀ l : List Value, (∀ v ∈ l, ∃ a, v = Value.ref a) → ∃ ts : List Addr, l = ts.map Value.ref := by
    intro l
    induction l with
    | nil => exact fun _ => ⟨[], rfl⟩
    | cons v l ih =>
      intro hv
      obtain ⟨a, e⟩ := hv v List.mem_cons_self
      obtain ⟨ts, e2⟩ := ih fun u hu => hv u (List.mem_cons_of_mem _ hu)
      exact ⟨a :: ts, by rw [e, e2] <;> rfl⟩
  obtain ⟨ts, hts⟩ := hex acc.toList hacc
  have len1 : us.length = xs.length := r1.length.symm
  have len2 : vs.length = ys.length := r2.length.symm
  have hlen : ts.length = min xs.length ys.length := by
    have e1 := congrArg List.length hts
    rw [Array.length_toList, o.sz, List.length_map, List.size_toArray, List.size_toArray, len1, len2] at e1
    exact e1.symm
  have at_ : ∀ (j : Nat) t, ts[j]? = some t → acc[j]? = some (.ref t) := fun j t e => by
    rw [← Array.getElem?_toList, hts, List.getElem?_map, e] <;> rfl
  have nd : ts.Nodup := by
    rw [List.Nodup, List.pairwise_iff_getElem]
    intro i j hi hj hij e
    have e1 := at_ i _ (List.getElem?_eq_getElem hi)
    have e2 := at_ j _ (List.getElem?_eq_getElem hj)
    rw [e] at e1
    exact absurd (o.nd i j _ e1 e2) (Nat.ne_of_lt hij)
  have got : ∀ (j : Nat) t, ts[j]? = some t → s.heap.objs.size ≤ t ∧ ∃ x y u v, xs[j]? = some x ∧ ys[j]? = some y ∧ RelV x u ∧ RelV y v ∧ IsTupOf2 h' t u v := fun j t e => by
    obtain ⟨t', u, v, h1, h2, h3, h4, h5⟩ := o.pr j _ (at_ j t e)
    cases h1
    have e1 : us[j]? = some u := by simpa using h4
    have e2 : vs[j]? = some v := by simpa using h5
    obtain ⟨x, hx, rx⟩ := vals_get r1 e1
    obtain ⟨y, hy, ry⟩ := vals_get r2 e2
    exact ⟨h2, x, y, u, v, hx, hy, rx, ry, h3⟩
  have f0 : ∀ j : Nat, ∃ ob : HO, ∀ t : Addr, ts[j]? = some t → ∃ x y, xs[j]? = some x ∧ ys[j]? = some y ∧ ob = .tup [x, y] := fun j => by
    cases e : ts[j]? with
    | none => exact ⟨.lst [], fun t z => by cases z⟩
    | some t =>
      obtain ⟨_, x, y, _, _, h1, h2, _⟩ := got j t e
      exact ⟨.tup [x, y], fun _ _ => ⟨x, y, h1, h2, rfl⟩⟩
  let g : Nat → HO := fun j => Classical.choose (f0 j)
  have hg : ∀ (j : Nat) (t : Addr), ts[j]? = some t → ∃ x y, xs[j]? = some x ∧ ys[j]? = some y ∧ g j = .tup [x, y] := fun j => Classical.choose_spec (f0 j)
  let f : Hp := fun b => if b = Lo then some (.lst (ts.map V.ref)) else ((ts.zipIdx 0).map fun p => (p.1, g p.2)).lookup b
  have fL : f Lo = some (.lst (ts.map V.ref)) := if_pos rfl
  have neL : ∀ (j : Nat) t, ts[j]? = some t → t ≠ Lo := fun j t e z => by
    obtain ⟨_, _, _, _, _, _, _, _, _, h3⟩ := got j t e
    rw [z] at h3
    have h4 := congrArg Obj.cls (Option.some.inj (o.lo.symm.trans h3))
    injection h4 with h5
    exact absurd h5 (by decide)
  have fT : ∀ (j : Nat) t, ts[j]? = some t → f t = some (g j) := fun j t e => by
    show (if t = Lo then some (HO.lst (ts.map V.ref)) else _) = _
    rw [if_neg (neL j t e), lookup_of ts 0 j t nd e, Nat.zero_add]
  refine ⟨hadd H s.heap.objs.size f, Inv_many I o.old fun b ob hb e => ?_, h f ts fL hlen fun j t e => ?_⟩
  · by_cases c1 : b = Lo
    · subst c1
      rw [fL] at e
      cases e
      refine ⟨?_, acc.toList, c, ?_, ?_⟩
      · rw [List.length_map, hlen]
        exact Nat.le_trans (Nat.min_le_left _ _) hx
      · rw [hts]
        have key : ∀ l : List Addr, Vals (l.map V.ref) (l.map Value.ref) := by
          intro l
          induction l with
          | nil => exact .nil
          | cons a l ih => exact .cons rfl ih
        exact key ts
      · have q := o.lo
        simpa using q
    · have e' : ((ts.zipIdx 0).map fun p => (p.1, g p.2)).lookup b = some ob := by
        have e2 : (if b = Lo then some (HO.lst (ts.map V.ref)) else ((ts.zipIdx 0).map fun p => (p.1, g p.2)).lookup b) = some ob := e
        rw [if_neg c1] at e2
        exact e2
      obtain ⟨j, h1, h2⟩ := lookup_at ts 0 b ob e'
      rw [Nat.zero_add] at h2
      obtain ⟨x, y, hx1, hy1, hg1⟩ := hg j b h1
      obtain ⟨_, x', y', u, v, hx2, hy2, rx, ry, hT⟩ := got j b h1
      rw [hx1] at hx2
      rw [hy1] at hy2
      cases hx2
      cases hy2
      rw [h2, hg1]
      exact ⟨by show 2 ≤ sizeLine; rw [sizeLine_eq]; omega, [u, v], .cons rx (.cons ry .nil), _, hT, rfl, _, rfl⟩
  · obtain ⟨x, y, h1, h2, h3⟩ := hg j t e
    obtain ⟨h4, _⟩ := got j t e
    exact ⟨h4, x, y, h1, h2, by rw [fT j t e, h3]⟩

theorem ref2 {a b : Addr} {us : List Value} (r : Vals [V.ref a, V.ref b] us) : us = [Value.ref a, Value.ref b] := by
  cases r with
  | cons r t =>
    cases t with
    | cons r2 t2 =>
      cases t2
      cases r
      cases r2
      rfl
end
section
variable {X : Cx}
/-- list(zip(a, b)) -/
theorem pe_listZip {es : List Expr} {e : Expr} {te : TA} {p p2 q pos : Pos} (hc : X.calm = true) (hg : Gl X "list") (hm : X.mg "list" = none) (hg2 : Gl X "zip") (hm2 : X.mg "zip" = none) (ha : PA X (e :: es) te)
    (he : starEach (e :: es) X.env = (false, eval e X.env) :: starEach es X.env := by rfl) (hpl : (backTo q (starEach es X.env)).any (·.1) = false := by rfl)
    (he1 : starEach [Expr.Call (.Name "zip" p2) (e :: es) [] q] X.env = (false, eval (.Call (.Name "zip" p2) (e :: es) [] q) X.env) :: starEach [] X.env := by rfl) :
    PE X (.Call (.Name "list" p) [.Call (.Name "zip" p2) (e :: es) [] q] [] pos) (fun σ H Q => te σ H fun vs H1 => rListZip X.K vs H1 Q) := by
  refine ⟨fun pins s σ H Q I h => ?_⟩
  refine Call_ (ld_blt I hg hm PyProof.Rows.boot_list ?_)
  refine PyProof.Rows.callWith_type1 (PyProof.Rows.args_cons ?_ he1) he1 rfl
  refine Call_ (ld_blt I hg2 hm2 PyProof.Rows.boot_zip ?_)
  refine PyProof.Rows.callWith_type1 (thn (ha.run q pins s σ H _ I h) fun us s1 ⟨vs, H1, I1, r1, q1⟩ => ?_) he hpl
  obtain ⟨l1, l2, xs, ys, rfl, hq, k⟩ := q1
  rw [ref2 r1]
  have hh := I1.ok.hd hc
  have lt : ∀ b o, H1 b = some o → b < s1.heap.objs.size := fun b o e => I1.hok.lt e
  rcases hq with ⟨hx, hy⟩ | ⟨hx, hy⟩
  · obtain ⟨us1, ru, pl1, z1⟩ := I1.list hx
    obtain ⟨us2, rv, pl2, z2⟩ := I1.list hy
    have L1 := pl1.isList
    have L2' := pl2.isList
    have a1 : l1 < s1.heap.objs.size := let ⟨o, ho, _⟩ := L1; Heap.lt_size ho
    have a2 : l2 < s1.heap.objs.size := let ⟨o, ho, _⟩ := L2'; Heap.lt_size ho
    refine call_zip_2 L1 L2' fun h' hz hTI hTO hi1 hi2 hsz old => PyProof.Rows.args_nil ?_
    have S := zip_sep2 (N := s1.heap.objs.size) (fp1 := [l1]) (fp2 := [l2]) (fun b hb => by rw [List.mem_singleton.mp hb]; exact a1) (fun b hb => by rw [List.mem_singleton.mp hb]; exact a2)
    have fz : ∀ (l : Addr), l < s1.heap.objs.size → ∀ (b j : Addr), j ≤ 1 → b ∈ [s1.heap.objs.size + j, l] → b < h'.objs.size := fun l hl b j hj hb => by
      rw [hsz]
      rcases List.mem_cons.mp hb with e | hb
      · rw [e]
        exact Nat.add_lt_add_left (Nat.lt_of_le_of_lt hj (by decide)) _
      · rw [List.mem_singleton.mp hb]
        exact Nat.lt_add_right _ hl
    refine Mz.call_list_zip (s := { s1 with heap := h' }) (hB := s1.heap) S
      (Draws.list (by simpa using hh) _ l1 (Nat.ne_of_lt a1) us1.toArray) (Draws.list (by simpa using hh) _ l2 (Nat.ne_of_lt (Nat.lt_succ_of_lt a2)) us2.toArray)
      ⟨Nat.le_add_right _ _, Nat.le_add_right _ _, Nat.le_refl _, Nat.le_succ _⟩ (by show _ < h'.objs.size ∧ _ < h'.objs.size ∧ _ < h'.objs.size ∧ _ < h'.objs.size; rw [hsz]; exact ⟨Nat.lt_succ_self _, by omega, by omega, by omega⟩)
      (fun b hb => fz l1 a1 b 0 (by decide) hb) (fun b hb => fz l2 a2 b 1 (by decide) hb) hz hTO hTI
      ⟨hi1, L1.at fun o e => old _ o e⟩ ⟨hi2, L2'.at fun o e => old _ o e⟩ old (by rw [List.size_toArray, ← ru.length]; exact Nat.le_trans (Nat.min_le_left _ _) z1) fun h2 tk acc c o => ?_
    obtain ⟨H2, I2, q2⟩ := zip_track (tk := tk) I1 ru rv (by show _ ≤ h'.objs.size; rw [hsz]; exact Nat.le_add_right _ _) z1 o fun f ts f1 f2 f3 => k _ f _ ts lt (by show _ ≤ h'.objs.size; rw [hsz]; exact Nat.le_add_right _ _) f1 f2 f3
    exact ⟨V.ref _, H2, I2, rfl, q2⟩
  · obtain ⟨us1, ru, L1, z1⟩ := I1.tuple hx
    obtain ⟨us2, rv, L2', z2⟩ := I1.tuple hy
    have a1 : l1 < s1.heap.objs.size := let ⟨o, ho, _⟩ := L1; Heap.lt_size ho
    have a2 : l2 < s1.heap.objs.size := let ⟨o, ho, _⟩ := L2'; Heap.lt_size ho
    refine RZ.call_zipT L1 L2' fun h' hz hTI hTO hi1 hi2 hsz old => PyProof.Rows.args_nil ?_
    have S := zip_sep2 (N := s1.heap.objs.size) (fp1 := [l1]) (fp2 := [l2]) (fun b hb => by rw [List.mem_singleton.mp hb]; exact a1) (fun b hb => by rw [List.mem_singleton.mp hb]; exact a2)
    have fz : ∀ (l : Addr), l < s1.heap.objs.size → ∀ (b j : Addr), j ≤ 1 → b ∈ [s1.heap.objs.size + j, l] → b < h'.objs.size := fun l hl b j hj hb => by
      rw [hsz]
      rcases List.mem_cons.mp hb with e | hb
      · rw [e]
        exact Nat.add_lt_add_left (Nat.lt_of_le_of_lt hj (by decide)) _
      · rw [List.mem_singleton.mp hb]
        exact Nat.lt_add_right _ hl
    refine Mz.call_list_zip (s := { s1 with heap := h' }) (hB := s1.heap) S
      (Draws.tuple (by simpa using hh) _ l1 (Nat.ne_of_lt a1) us1.toArray) (Draws.tuple (by simpa using hh) _ l2 (Nat.ne_of_lt (Nat.lt_succ_of_lt a2)) us2.toArray)
      ⟨Nat.le_add_right _ _, Nat.le_add_right _ _, Nat.le_refl _, Nat.le_succ _⟩ (by show _ < h'.objs.size ∧ _ < h'.objs.size ∧ _ < h'.objs.size ∧ _ < h'.objs.size; rw [hsz]; exact ⟨Nat.lt_succ_self _, by omega, by omega, by omega⟩)
      (fun b hb => fz l1 a1 b 0 (by decide) hb) (fun b hb => fz l2 a2 b 1 (by decide) hb) hz hTO hTI
      ⟨hi1, L1.keeps old⟩ ⟨hi2, L2'.keeps old⟩ old (by rw [List.size_toArray, ← ru.length]; exact Nat.le_trans (Nat.min_le_left _ _) z1) fun h2 tk acc c o => ?_
    obtain ⟨H2, I2, q2⟩ := zip_track (tk := tk) I1 ru rv (by show _ ≤ h'.objs.size; rw [hsz]; exact Nat.le_add_right _ _) z1 o fun f ts f1 f2 f3 => k _ f _ ts lt (by show _ ≤ h'.objs.size; rw [hsz]; exact Nat.le_add_right _ _) f1 f2 f3
    exact ⟨V.ref _, H2, I2, rfl, q2⟩
end
def dListZip : List Dt → Option Dt
  | [.list a, .list b] => some (.list (List.zipWith (fun x y => .tuple [x, y]) a b))
  | [.tuple a, .tuple b] => some (.list (List.zipWith (fun x y => .tuple [x, y]) a b))
  | _ => none
theorem dqAll_of : ∀ {G : Hp} {vs : List V} {ds : List Dt}, vs.length = ds.length → (∀ (j : Nat) v d, vs[j]? = some v → ds[j]? = some d → Dq G v d) → DqAll G vs ds
  | _, [], [], _, _ => .nil
  | _, v :: vs, d :: ds, hl, h => .cons (h 0 v d rfl rfl) (dqAll_of (by simpa using hl) fun j v d h1 h2 => h (j + 1) v d (by simpa using h1) (by simpa using h2))
  | _, [], _ :: _, hl, _ => by simp at hl
  | _, _ :: _, [], hl, _ => by simp at hl
theorem zipped {T : Tm} {s : Tn} {G H : Hp} {Q : VK} {xs ys : List V} {a b : List Dt} (w : Wd T s G H) (k : Th T s G H (.list (List.zipWith (fun x y => PyData.tuple [x, y]) a b)) Q) (h1 : DqAll G xs a) (h2 : DqAll G ys b)
    (N : Nat) (f : Hp) (Lo : Addr) (ts : List Addr) (lt : ∀ b o, H b = some o → b < N) (hN : N ≤ Lo) (fL : f Lo = some (.lst (ts.map V.ref))) (hl : ts.length = min xs.length ys.length)
    (hj : ∀ (j : Nat) t, ts[j]? = some t → N ≤ t ∧ ∃ x y, xs[j]? = some x ∧ ys[j]? = some y ∧ f t = some (.tup [x, y])) : Q (.ref Lo) (hadd H N f) := by
  refine k _ _ _ (ext_many w lt) (wd_many w lt) (.inl (.lst ((hadd_ge hN).trans fL) (dqAll_of ?_ fun j v d e1 e2 => ?_)))
  · rw [List.length_map, hl, List.length_zipWith, h1.length, h2.length]
  · rw [List.getElem?_map] at e1
    obtain ⟨t, ht, e⟩ := Option.map_eq_some_iff.mp e1
    subst e
    obtain ⟨hNt, x, y, hx, hy, hf⟩ := hj j t ht
    obtain ⟨dx, ex, qx⟩ := h1.got hx
    obtain ⟨dy, ey, qy⟩ := h2.got hy
    have e3 : (List.zipWith (fun x y => PyData.tuple [x, y]) a b)[j]? = some (.tuple [dx, dy]) := by rw [List.getElem?_zipWith, ex, ey]
    rw [e3] at e2
    cases e2
    have up : Same G (hadd G N f) := (ext_many w lt).up
    exact .tup ((hadd_ge hNt).trans hf) (.cons (Dq.mono up _ _ qx) (.cons (Dq.mono up _ _ qy) .nil))
theorem sa_imp {m : mA} {σ : L2.St} {H : Hp} {R R' : List V → Hp → Prop} (h : SA m σ H R) (f : ∀ xs H1, R xs H1 → R' xs H1) : SA m σ H R' := by
  obtain ⟨T, G, env, s, ds, s1, w, e, hm, k⟩ := h
  exact ⟨T, G, env, s, ds, s1, w, e, hm, fun G1 H1 vs x w1 dv => f _ _ (k G1 H1 vs x w1 dv)⟩
section
variable {X : Cx}
theorem se_listZip {es : List Expr} {e : Expr} {ms : mA} {p p2 q pos : Pos} (hm : X.mg "list" = none) (hm2 : X.mg "zip" = none) (ha : PA X (e :: es) (SA ms)) (hc : X.calm = true := by rfl) (hg : Gl X "list" := by rfl) (hg2 : Gl X "zip" := by rfl)
    (he : starEach (e :: es) X.env = (false, eval e X.env) :: starEach es X.env := by rfl) (hpl : (backTo q (starEach es X.env)).any (·.1) = false := by rfl)
    (he1 : starEach [Expr.Call (.Name "zip" p2) (e :: es) [] q] X.env = (false, eval (.Call (.Name "zip" p2) (e :: es) [] q) X.env) :: starEach [] X.env := by rfl) :
    PE X (.Call (.Name "list" p) [.Call (.Name "zip" p2) (e :: es) [] q] [] pos) (SE (mF dListZip ms)) := sim_pe (pe_listZip hc hg hm hg2 hm2 ha he hpl he1) fun σ H Q h => by
  have h2 := rF_of h
  refine sa_imp h2 fun xs H1 q => ?_
  obtain ⟨T, G, ds, z, s, w, dv, hf, k⟩ := q
  unfold dListZip at hf
  split at hf
  · cases hf
    obtain ⟨x, y, rfl, d1, d2⟩ := dv2 dv
    obtain ⟨a1, xs, rfl, g1, q1⟩ := d1.lst_
    obtain ⟨a2, ys, rfl, g2, q2⟩ := d2.lst_
    exact ⟨a1, a2, xs, ys, rfl, .inl ⟨SqL.of (w.sub _ _ g1), SqL.of (w.sub _ _ g2)⟩, fun N f Lo ts lt hN fL hl hj => zipped w k q1 q2 N f Lo ts lt hN fL hl hj⟩
  · cases hf
    obtain ⟨x, y, rfl, d1, d2⟩ := dv2 dv
    obtain ⟨a1, xs, rfl, g1, q1⟩ := d1.tup_
    obtain ⟨a2, ys, rfl, g2, q2⟩ := d2.tup_
    exact ⟨a1, a2, xs, ys, rfl, .inr ⟨SqT.of (w.sub _ _ g1), SqT.of (w.sub _ _ g2)⟩, fun N f Lo ts lt hN fL hl hj => zipped w k q1 q2 N f Lo ts lt hN fL hl hj⟩
  · cases hf
end
end Md
-- Ms3
set_option Elab.async false
set_option linter.all false
set_option maxRecDepth 100000
set_option maxHeartbeats 2000000
/-! Pairs of ints: min, list.index. -/
namespace Md
open PySem PySem.Spec PyProof.Rows L2
set_option autoImplicit false
abbrev Pr := Int × Int
def enc (p : Pr) : Dt := .tuple [.int p.1, .int p.2]
def pairs? : List Dt → Option (List Pr)
  | [] => some []
  | .tuple [.int a, .int b] :: r => match pairs? r with
    | some l => some ((a, b) :: l)
    | none => none
  | _ :: _ => none
theorem pairs_of : ∀ {ds : List Dt} {ps : List Pr}, pairs? ds = some ps → ds = ps.map enc
  | [], _, h => by
    cases h
    rfl
  | d :: ds, ps, h => by
    unfold pairs? at h
    split at h
    · rename_i e
      cases e
    · rename_i a b r e
      cases e
      split at h
      · rename_i l hl
        cases h
        rw [pairs_of hl] <;> rfl
      · cases h
    · cases h
theorem pairs_map : ∀ ps : List Pr, pairs? (ps.map enc) = some ps
  | [] => rfl
  | p :: ps => by
    show (match pairs? (ps.map enc) with
      | some l => some ((p.1, p.2) :: l)
      | none => none) = some (p :: ps)
    rw [pairs_map ps]
/-- p stands before q -/
def ltP (p q : Pr) : Bool := decide (p.1 < q.1) || (p.1 == q.1 && decide (p.2 < q.2))
def minP (p : Pr) (ps : List Pr) : Pr := ps.foldl (fun a y => if ltP y a then y else a) p
theorem lt_enc (p q : Pr) : PySem.W.dataLt (enc p) (enc q) = ltP p q := by
  unfold enc ltP
  rw [PySem.W.dataLt_ii]
  by_cases h1 : p.1 < q.1
  · simp [h1]
  · by_cases h2 : p.1 = q.1
    · simp [h1, h2]
    · simp [h1, h2]
theorem min_enc (p : Pr) (ps : List Pr) : PySem.W.minD (enc p) (ps.map enc) = enc (minP p ps) := by
  unfold PySem.W.minD minP
  induction ps generalizing p with
  | nil => rfl
  | cons q ps ih =>
    rw [List.map_cons, List.foldl_cons, List.foldl_cons, lt_enc, ← ih]
    cases ltP q p <;> rfl
theorem alike_enc (p q : Pr) : PySem.W.alike (enc p) (enc q) = true := by simp [enc, PySem.W.alike, PySem.W.alikeAll]
theorem alikeAll_enc (ps : List Pr) : PySem.W.AlikeAll (ps.map enc) := ⟨fun x hx y hy => by
  obtain ⟨p, _, rfl⟩ := List.mem_map.mp hx
  obtain ⟨q, _, rfl⟩ := List.mem_map.mp hy
  exact alike_enc p q, fun x hx => by
  obtain ⟨p, _, rfl⟩ := List.mem_map.mp hx
  exact fun z => nomatch z⟩
theorem depth_enc (ps : List Pr) : PyData.depthAll (ps.map enc) ≤ 1 := by
  induction ps with
  | nil => exact Nat.zero_le _
  | cons p ps ih =>
    rw [List.map_cons, PyData.depthAll]
    exact Nat.max_le.mpr ⟨Nat.le_refl _, ih⟩
def dMin1 : List Dt → Option Dt
  | [.list ds] => match pairs? ds with
    | some (p :: ps) => some (enc (minP p ps))
    | _ => none
  | [.tuple ds] => match pairs? ds with
    | some (p :: ps) => some (enc (minP p ps))
    | _ => none
  | _ => none
section
variable {X : Cx}
theorem reads_of {pins : List (Addr × Obj)} {σ : L2.St} {H G : Hp} {s : Shared} {T : Tm} {st : Tn} {v : V} {u : Value} {d : Dt} (I : Inv X pins σ H s) (w : Wd T st G H) (h : Dq G v d) (r : RelV v u) : ∃ as, Reads s.heap u d as :=
  Dp.reads I _ _ _ (Dq.dp X.K _ _ (Dq.mono w.sub _ _ h)) r
theorem readsAll_of {pins : List (Addr × Obj)} {σ : L2.St} {H G : Hp} {s : Shared} {T : Tm} {st : Tn} {vs : List V} {us : List Value} {ds : List Dt} (I : Inv X pins σ H s) (w : Wd T st G H) (h : DqAll G vs ds) (r : Vals vs us) : ∃ as, ReadsAll s.heap us ds as :=
  Dp.readsAll I _ _ _ (DqAll.dp X.K _ _ (DqAll.mono w.sub _ _ h)) r
theorem min_hit {pins : List (Addr × Obj)} {σ : L2.St} {H G : Hp} {s : Shared} {T : Tm} {st : Tn} {vs : List V} {us : List Value} {p : Pr} {ps : List Pr} {Q : VK} (I : Inv X pins σ H s) (w : Wd T st G H) (h : DqAll G vs ((p :: ps).map enc)) (r : Vals vs us)
    (k : Th T st G H (enc (minP p ps)) Q) {i : Nat} {u : Value} {h' : Heap} {tk : Nat} {bs : List Addr} (hu : us.toArray[i]? = some u) (hr : Reads h' u (PySem.W.minD (enc p) (ps.map enc)) bs) (hk : ∀ b o, s.heap.get? b = some o → h'.get? b = some o) :
    EP X pins σ Q u { s with heap := h', toks := tk } := by
  have hu2 : us[i]? = some u := by simpa using hu
  obtain ⟨v, hv, rv⟩ := vals_get r hu2
  obtain ⟨d, hd, q⟩ := h.got hv
  obtain ⟨as, rd⟩ := reads_of I w q rv
  rw [List.getElem?_map] at hd
  obtain ⟨q2, _, e2⟩ := Option.map_eq_some_iff.mp hd
  subst e2
  rw [min_enc] at hr
  have e : enc q2 = enc (minP p ps) := PySem.W.alike_unique _ _ _ _ _ (alike_enc _ _) (Reads.keeps hk rd) hr
  rw [e] at q
  exact ⟨v, H, I.kept hk, rv, k.now w (.inl q)⟩
theorem cr_minD (hc : X.calm = true) (hu : X.A.units + 64 < cLine) : CallR X (.builtin "min") (rF dMin1) := by
  intro pins s σ H xs us Q I r h
  obtain ⟨T, G, ds, z, st, w, dv, hf, k⟩ := h
  unfold dMin1 at hf
  split at hf
  · rename_i ds2
    split at hf
    · rename_i p ps e
      cases hf
      have e1 := pairs_of e
      subst e1
      obtain ⟨x, rfl, h1⟩ := dv1 dv
      obtain ⟨a, ys, rfl, ha, hx⟩ := h1.lst_
      rw [Vals.ref1 r]
      obtain ⟨its, rv, pl, _⟩ := I.list (SqL.of (w.sub _ _ ha))
      obtain ⟨as, ra⟩ := readsAll_of I w hx rv
      have dp := depth_enc (p :: ps)
      exact PySem.W.min_list_data (x := enc p) (xs := ps.map enc) (I.ok.hd hc) pl.isList (by simpa using ra) (alikeAll_enc (p :: ps)) (by rw [← List.map_cons]; omega) fun i v h' tk bs hv hr hk => min_hit I w hx rv k hv hr hk
    · cases hf
  · rename_i ds2
    split at hf
    · rename_i p ps e
      cases hf
      have e1 := pairs_of e
      subst e1
      obtain ⟨x, rfl, h1⟩ := dv1 dv
      obtain ⟨a, ys, rfl, ha, hx⟩ := h1.tup_
      rw [Vals.ref1 r]
      obtain ⟨its, rv, pl, _⟩ := I.tuple (SqT.of (w.sub _ _ ha))
      obtain ⟨as, ra⟩ := readsAll_of I w hx rv
      have dp := depth_enc (p :: ps)
      exact PySem.W.min_tuple_data (x := enc p) (xs := ps.map enc) (I.ok.hd hc) pl (by simpa using ra) (alikeAll_enc (p :: ps)) (by rw [← List.map_cons]; omega) fun i v h' tk bs hv hr hk => min_hit I w hx rv k hv hr hk
    · cases hf
  · cases hf
end
/-! ### list.index of a pair -/
def dLIndex : Dt → Dt → Option Dt
  | .list ds, .tuple [.int a, .int b] => match pairs? ds with
    | some ps => match ps.findIdx? (fun q => q == (a, b)) with
      | some i => if ps.length ≤ line then some (.int (i : Nat)) else none
      | none => none
    | none => none
  | _, _ => none
theorem eqv_enc (p q : Pr) : PyData.eqv (enc p) (enc q) = (p == q) := by
  unfold enc
  simp [PyData.eqv, PyData.eqvAll]
  cases p
  cases q
  rfl
theorem shaped_enc (p : Pr) : SeqAt.shaped (enc p) = true := rfl
theorem lay_encs : ∀ ps : List Pr, PyData.canLayAll0 (ps.map enc) = true
  | [] => rfl
  | p :: ps => by
    rw [List.map_cons, PyData.canLayAll0, lay_encs ps] <;> rfl
theorem units65 {k : Nat} {A : Around} (r : Room k A) : A.units + 65 < cLine := by
  have := r.un
  omega
section
variable {X : Cx} {o e : Expr} {mo me : mE} {apos pos : Pos}
theorem se_lindex (hu2 : X.A.units + 65 < cLine) (ho : PE X o (SE mo)) (he : PE X e (SE me))
    (hbase : attributeBase o "index" X.env (eval o X.env) = eval o X.env := by rfl) 
    (hfew : ((backTo pos (starEach [e] X.env)).all (fun x => !x.1) && (backToKw pos (keywordEach [] X.env)).all (fun x => x.1.isSome)
      && decide ([e].length + ([] : List Keyword).length + (if ([] : List Keyword).isEmpty then 0 else 1) < 30)) = true := by rfl)
    (hline : (apos.endLine == pos.line) = true := by rfl) (hs : starEach [e] X.env = (false, eval e X.env) :: starEach [] X.env := by rfl) :
    PE X (.Call (.Attribute o "index" apos) [e] [] pos) (SE (m2 dLIndex mo me)) :=
  sim_pe (pe_bm PySem.F.plainAttrs_list PySem.F.slot_list_index PySem.F.type_list_index (mt_indexD hu2) ho (sa_cons he sa_nil hs) hbase hfew hline hs rfl) fun σ H Q h => by
    obtain ⟨T, G, env, s, z, s2, w, e, hm, k⟩ := h
    obtain ⟨d, s1, e', h1, h2, h3⟩ := m2_inv hm
    unfold dLIndex at h3
    split at h3
    · rename_i ds a b
      split at h3
      · rename_i ps hps
        split at h3
        · rename_i i hi
          split at h3
          · rename_i hl
            cases h3
            have e1 := pairs_of hps
            subst e1
            refine SE.seq w e h1 fun G1 H1 x x1 w1 e1 dv1 => ?_
            obtain ⟨a1, xs, rfl, g1, q1⟩ := dv1.lst_
            refine ⟨.inl ⟨rfl, xs, SqL.of (w1.sub _ _ g1)⟩, T, G1, env, s1, [.tuple [.int a, .int b]], s2, w1, e1, ?_, fun G2 H2 ys x2 w2 dv2 => ?_⟩
            · show mCons me mNil env s1 = _
              unfold mCons mNil
              rw [h2]
            · cases dv2 with
              | cons dy dn =>
                cases dn
                rename_i y
                have gl2 : Dq G2 (.ref a1) (.list (ps.map enc)) := Dq.mono x2.up _ _ (.lst g1 q1)
                obtain ⟨hi1, hi2, hi3⟩ := List.findIdx?_eq_some_iff_getElem.mp hi
                refine ⟨a1, y, enc (a, b), ps.map enc, i, enc ps[i], rfl, rfl, Dq.dp X.K _ _ (Dq.mono w2.sub _ _ gl2), Dq.dp X.K _ _ (Dq.mono w2.sub _ _ (dy.dq (fun _ z => nomatch z))), ?_, shaped_enc _, ?_, ?_, fun m z hm hz => ?_, ?_⟩
                · have hd : PyData.depth (.list (ps.map enc)) ≤ 64 := by
                    have := depth_enc ps
                    unfold PyData.depth
                    omega
                  unfold SeqAt.shaped
                  rw [Bool.and_eq_true]
                  exact ⟨lay_encs ps, decide_eq_true hd⟩
                · rw [List.getElem?_map, List.getElem?_eq_getElem hi1] <;> rfl
                · rw [eqv_enc]
                  exact hi2
                · have hml : m < ps.length := Nat.lt_trans hm hi1
                  rw [List.getElem?_map, List.getElem?_eq_getElem hml] at hz
                  cases hz
                  rw [eqv_enc]
                  have q := hi3 m hm
                  simpa using q
                · exact k _ _ _ (x1.trans w1 x2) w2 (.inl (.int _))
          · cases h3
        · cases h3
      · cases h3
    · cases h3
end
end Md
-- Mt1
set_option Elab.async false
set_option linter.all false
set_option maxRecDepth 100000
set_option maxHeartbeats 4000000
/-! set(x), x a list or a tuple: whatever the loop of set.update is shown to do. -/
namespace Mz
open PySem PySem.Spec PyProof.Rows PySem.W
set_option autoImplicit false
/-- the set as it is made -/
abbrev newSet (w : World) : Obj := { cls := .type "set", dict := none, data := .set #[] 0 (.fresh 0 0 (!w.params.followText "set-order")) }
section
variable {prog : Program} {w : World} {A : Around} {E : Value → Shared → Prop} {s : Shared}
theorem set_of {x : Addr} {oX oI : Obj} {T : String} {Done : Heap → Prop} {Q : Value → Shared → Prop} (hx : s.heap.get? x = some oX) (hcX : oX.cls = .type T)
    (n1 : isSubtype (.type T) (.type "set") = pure false) (n2 : isSubtype (.type T) (.type "frozenset") = pure false) (n3 : (Value.type T == Value.type "dict") = false)
    (hit : ∀ (B : Around) (E2 : Value → Shared → Prop) (Q2 : Value → Shared → Prop) (s2 : Shared), s2.heap.get? x = some oX → Q2 (.ref s2.heap.objs.size) { s2 with heap := s2.heap.push oI } → wpAny (model prog w) B (pyIter (.ref x)) Q2 E2 s2)
    (loop : ∀ R : Result → Shared → Prop, (∀ h' tk, Done h' → R (.ok (.ret .none)) { s with heap := h', toks := tk }) →
      codeAny (model prog w) A.in1.in1 (.builtin "set.update.loop" ⟨[.ref s.heap.objs.size, .ref (s.heap.objs.size + 1)], []⟩) R { s with heap := (s.heap.push (newSet w)).push oI })
    (h : ∀ h' tk, Done h' → Q (.ref s.heap.objs.size) { s with heap := h', toks := tk }) : wpAny (model prog w) A (call (.type "set") [.ref x]) Q E s := by
  obtain ⟨cS, tS, moS⟩ := F.called_set.mro
  have mdS := F.called_set.made
  have sbS := F.called_set.sub
  have ntS := F.called_set.notType
  have ccS := F.called_set.canCreate
  have tcS := F.typeCall_set_1 (.ref x)
  refine wpAny_call (codeAny_of_tree ?_)
  show wpAny _ _ (callAny (.type "set") _) _ _ _
  refine wpAny_pure ⟨Code.quiet_builtin _ (by decide +kernel), codeAny_builtin F.entry_type_call ?_⟩
  rw [Around.under_plain (weight_type_call_type "set" [.ref x] []) rfl]
  repeat (any_goals (first | assumption | wp_step))
  refine codeAny_mono (L2.code_set_led1 (.ref x) (E := E) (Q₁ := fun u t => u = .ref s.heap.objs.size ∧ t = { s with heap := s.heap.push (newSet w) }) ⟨rfl, rfl⟩) fun r t hr => ?_
  rcases r with e | fl
  · exact hr
  cases fl with
  | ret obj =>
    obtain ⟨rfl, rfl⟩ := hr
    have g0 : (s.heap.push (newSet w)).get? s.heap.objs.size = some (newSet w) := Heap.get?_push_size _ rfl
    have ty0 : Shared.TypeIs { s with heap := s.heap.push (newSet w) } (.ref s.heap.objs.size) "set" := ⟨_, g0, rfl⟩
    have liS := F.called_set.init.lookup
    have biS := F.called_set.init.bind (.ref s.heap.objs.size)
    repeat (any_goals (first | assumption | wp_step))
    refine codeAny_mono (codeAny_call_builtin (R := wants (fun r t2 => r = .none ∧ ∃ h' tk, t2 = { s with heap := h', toks := tk } ∧ Done h') E) F.called_set.init.plain F.entry_set_init (check_set_init_1 ty0 ?_)) fun r2 t2 hr2 => ?_
    · have gx : (s.heap.push (newSet w)).get? x = some oX := Heap.get?_push_of_some _ hx
      obtain ⟨cls, dct, dat, sls⟩ := oX
      dsimp only at hcX
      subst hcX
      unfold Builtin.«set.__init__» noKeywords Builtin.Frozenset.updateFrom
      generalize hPI : pyIter = PI
      wp_walk
      subst hPI
      refine hit _ _ _ _ gx ?_
      refine wpAny_bind (wpAny_runValue ?_)
      have sz : ({ s with heap := s.heap.push (newSet w) } : Shared).heap.objs.size = s.heap.objs.size + 1 := Heap.size_push ..
      rw [sz]
      refine loop _ fun h' tk hD => ?_
      show wpAny _ _ _ _ _ _
      refine wpAny_pure ?_
      show wpAny _ _ (ret Value.none) _ _ _
      exact wpAny_pure ⟨rfl, h', tk, rfl, hD⟩
    · rcases r2 with e | fl2
      · exact hr2
      cases fl2 with
      | ret r =>
        obtain ⟨rfl, h', tk, rfl, hD⟩ := hr2
        repeat (any_goals (first | assumption | wp_step))
        exact h h' tk hD
      | _ => exact hr2.elim
  | _ => exact hr.elim
end
end Mz
-- Mt2
set_option Elab.async false
set_option linter.all false
set_option maxRecDepth 100000
set_option maxHeartbeats 4000000
/-! len(set(t)), t a tuple of pairs of ints. -/
namespace Md
open PySem PySem.Spec PyProof.Rows L2
set_option autoImplicit false
section
variable {P : Program} {w : World} {A : Around} {E : Value → Shared → Prop} {s : Shared}
/-- how a new iterator and the set stand -/
theorem set_corners {l : Addr} {items : Array Value} (ks : List (Addr × List Int)) {Q : Value → Shared → Prop} (hh : A.handled = none) (hl : s.heap.IsTuple l items) (hit : items.toList = ks.map fun p => Value.ref p.1)
    (hk : ∀ p ∈ ks, IsT P w s.heap p.2 p.1) (hfew : ks.length < 64) (hu : A.units + 3 < cLine)
    (h : ∀ (h' : Heap) (tk : Nat) L es ep t, SetTR P w h' s.heap.objs.size L es ep t → Got ks ks.length L → (∀ b o, s.heap.get? b = some o → h'.get? b = some o) → Q (.ref s.heap.objs.size) { s with heap := h', toks := tk }) :
    wpAny (model P w) A (call (.type "set") [.ref l]) Q E s := by
  obtain ⟨oX, hoX, hcX, nX, hdX⟩ := id hl
  have hn : items.size = ks.length := by
    have q := congrArg List.length hit
    rwa [Array.length_toList, List.length_map] at q
  have lS : l < s.heap.objs.size := Heap.lt_size hoX
  have none_of : ∀ b, s.heap.objs.size ≤ b → s.heap.get? b = none := fun b hb => by
    cases q : s.heap.get? b with
    | none => rfl
    | some o => exact absurd (Nat.lt_of_lt_of_le (Heap.lt_size q) hb) (Nat.lt_irrefl _)
  refine Mz.set_of (Done := fun h' => (∃ L es ep t, SetTR P w h' s.heap.objs.size L es ep t ∧ Got ks ks.length L) ∧ ∀ b o, s.heap.get? b = some o → h'.get? b = some o) hoX hcX PySem.F.sub_tuple_set PySem.F.sub_tuple_frozenset (by decide)
    (oI := { cls := .type "tuple_iterator", data := .fields #[.ref l, .int 0 0] }) (fun B E2 Q2 s2 e q => wpAny_pyIter_tuple (items := items) ⟨oX, e, hcX, nX, hdX⟩ q) (fun R hR => ?_) fun h' tk ⟨⟨L, es, ep, t, h1, h2⟩, h3⟩ => h h' tk L es ep t h1 h2 h3
  have z1 : (s.heap.push (Mz.newSet w)).objs.size = s.heap.objs.size + 1 := Heap.size_push ..
  have up : ∀ b o, s.heap.get? b = some o → ((s.heap.push (Mz.newSet w)).push { cls := .type "tuple_iterator", data := .fields #[.ref l, .int 0 0] }).get? b = some o := fun b o e => Heap.get?_push_of_some _ (Heap.get?_push_of_some _ e)
  have gS : ((s.heap.push (Mz.newSet w)).push { cls := .type "tuple_iterator", data := .fields #[.ref l, .int 0 0] }).get? s.heap.objs.size = some (Mz.newSet w) := Heap.get?_push_of_some _ (Heap.get?_push_size _ rfl)
  have gI : ((s.heap.push (Mz.newSet w)).push { cls := .type "tuple_iterator", data := .fields #[.ref l, .int 0 0] }).get? (s.heap.objs.size + 1) = some { cls := .type "tuple_iterator", data := .fields #[.ref l, .int 0 0] } := by
    rw [← z1]
    exact Heap.get?_push_size _ rfl
  have W := Walks.tuple (prog := P) (w := w) (A := A.in1.in1.in1) (by simpa using hh) (s.heap.objs.size + 1) l (Nat.ne_of_lt (Nat.lt_succ_of_lt lS)) items
  refine set_update_tups W.toS s.heap.objs.size (fun hm => ?_) ks hn hfew (fun i v hv => ?_) s.heap hk (none_of _ (Nat.le_refl _)) (fun b hb => ?_) hu (items.size - 0) 0 _ rfl (Nat.zero_le _) ⟨⟨_, gI, rfl, rfl⟩, oX, up _ _ hoX, hcX, nX, hdX⟩ up
    ⟨[], #[], 0, _, setTR_fresh gS, Got.zero ks⟩ fun s' L es ep t hm hS g hkp => ?_
  · rcases List.mem_cons.mp hm with e | hm
    · exact absurd e (Nat.ne_of_lt (Nat.lt_succ_self _))
    · exact absurd (List.mem_singleton.mp hm) (Nat.ne_of_gt lS)
  · have q : items.toList[i]? = some v := by
      rw [Array.getElem?_toList]
      exact hv
    rw [hit, List.getElem?_map] at q
    obtain ⟨p, hp, e⟩ := Option.map_eq_some_iff.mp q
    exact ⟨p, hp, e.symm⟩
  · rw [List.mem_singleton.mp hb]
    exact none_of _ (Nat.le_succ _)
  · rw [hn] at g
    have e : s' = { s with heap := s'.heap, toks := s'.toks } := by
      obtain ⟨h', g2, d', tk', os'⟩ := s'
      have eg : g2 = s.gens := hm.gens
      have ed : d' = s.drawn := hm.drawn
      have eo : os' = s.os := hm.os
      rw [eg, ed, eo]
    rw [e]
    exact hR _ _ ⟨⟨L, es, ep, t, hS, g⟩, hkp⟩
end
/-- without repeats -/
def nub {α : Type} [BEq α] : List α → List α
  | [] => []
  | p :: ps => if ps.elem p then nub ps else p :: nub ps
theorem mem_nub {α : Type} [BEq α] [LawfulBEq α] : ∀ {ps : List α} {p : α}, p ∈ nub ps ↔ p ∈ ps
  | [], _ => Iff.rfl
  | q :: ps, p => by
    unfold nub
    split
    · rename_i c
      have c' : q ∈ ps := List.elem_iff.mp c
      rw [mem_nub, List.mem_cons]
      exact ⟨.inr, fun h => h.elim (fun e => e ▸ c') id⟩
    · rw [List.mem_cons, List.mem_cons, mem_nub]
theorem nub_nodup {α : Type} [BEq α] [LawfulBEq α] : ∀ ps : List α, (nub ps).Nodup
  | [] => List.nodup_nil
  | q :: ps => by
    unfold nub
    split
    · exact nub_nodup ps
    · rename_i c
      refine List.nodup_cons.mpr ⟨fun h => c (List.elem_iff.mpr (mem_nub.mp h)), nub_nodup ps⟩
def two (p : Pr) : List Int := [p.1, p.2]
theorem two_inj {p q : Pr} (h : two p = two q) : p = q := by
  obtain ⟨a, b⟩ := p
  obtain ⟨c, d⟩ := q
  unfold two at h
  injection h with h1 h2
  injection h2 with h2 _
  exact Prod.ext h1 h2
theorem got_len {ks : List (Addr × List Int)} {ps : List Pr} {L : List (Addr × List Int)} (hk : ks.map (·.2) = ps.map two) (g : Got ks ks.length L) (nd : (L.map (·.2)).Nodup) : L.length = (nub ps).length := by
  have e : (L.map (·.2)).Perm ((nub ps).map two) := by
    refine (List.perm_ext_iff_of_nodup nd ?_).mpr fun k => ?_
    · rw [List.Nodup, List.pairwise_map]
      exact List.Pairwise.imp (fun h e => h (two_inj e)) (nub_nodup ps)
    · have hm : k ∈ (nub ps).map two ↔ k ∈ ks.map (·.2) := by
        rw [hk, List.mem_map, List.mem_map]
        exact ⟨fun ⟨p, h1, h2⟩ => ⟨p, mem_nub.mp h1, h2⟩, fun ⟨p, h1, h2⟩ => ⟨p, mem_nub.mpr h1, h2⟩⟩
      rw [hm]
      constructor
      · intro h
        obtain ⟨p, hp, e⟩ := List.mem_map.mp h
        exact List.mem_map.mpr ⟨p, List.mem_of_mem_take (g.sub p hp), e⟩
      · intro h
        obtain ⟨p, hp, e⟩ := List.mem_map.mp h
        rw [← e]
        exact g.all p (by rw [List.take_length]; exact hp)
  have q := e.length_eq
  rwa [List.length_map, List.length_map] at q
/-- the tuples behind pairs -/
theorem pair_refs {G : Hp} : ∀ {vs : List V} {ps : List Pr}, DqAll G vs (ps.map enc) → ∃ ks : List (Addr × List Int), vs = ks.map (fun p => V.ref p.1) ∧ ks.map (·.2) = ps.map two ∧ ∀ p ∈ ks, G p.1 = some (.tup (p.2.map V.int))
  | _, [], .nil => ⟨[], rfl, rfl, fun p h => absurd h List.not_mem_nil⟩
  | _, p :: ps, .cons h t => by
    obtain ⟨ks, h1, h2, h3⟩ := pair_refs t
    cases h with
    | @tup a xs _ ha hx =>
      cases hx with
      | cons q1 r1 =>
        cases r1 with
        | cons q2 r2 =>
          cases r2
          cases q1
          cases q2
          refine ⟨(a, two p) :: ks, by rw [h1] <;> rfl, by rw [List.map_cons, List.map_cons, h2], fun q hq => ?_⟩
          rcases List.mem_cons.mp hq with e | hq
          · rw [e]
            exact ha
          · exact h3 q hq
def dLenSet : List Dt → Option Dt
  | [.tuple ds] => match pairs? ds with
    | some ps => if ps.length < 64 then some (.int ((nub ps).length : Nat)) else none
    | none => none
  | _ => none
section
variable {X : Cx}
theorem se_lenSet {a : Expr} {ma : mE} {p p2 q pos : Pos} (hu : X.A.units + 64 < cLine) (hm : X.mg "len" = none) (hm2 : X.mg "set" = none) (ha : PA X [a] (SA (mCons ma mNil))) (hc : X.calm = true := by rfl) (hg : Gl X "len" := by rfl) (hg2 : Gl X "set" := by rfl)
    (na : starEach [a] X.env = (false, eval a X.env) :: starEach [] X.env := by rfl) (nb : starEach [Expr.Call (.Name "set" p2) [a] [] q] X.env = (false, eval (.Call (.Name "set" p2) [a] [] q) X.env) :: starEach [] X.env := by rfl) :
    PE X (.Call (.Name "len" p) [.Call (.Name "set" p2) [a] [] q] [] pos) (SE (mF dLenSet (mCons ma mNil))) := by
  refine ⟨fun pins s σ H Q I h => ?_⟩
  have hA := ha.run q pins s σ H _ I (rF_of h)
  refine Call_ (ld_blt I hg hm PySem.boot_len ?_)
  refine PyProof.Rows.callWith_builtin1 (PyProof.Rows.args_cons ?_ nb) nb rfl
  refine Call_ (ld_blt I hg2 hm2 PyProof.Rows.boot_set ?_)
  refine PyProof.Rows.callWith_type1 (thn hA fun us s1 ⟨vs, H1, I1, r1, q1⟩ => ?_) na rfl
  obtain ⟨T, G, ds, z, st, wd, dv, hf, k⟩ := q1
  unfold dLenSet at hf
  split at hf
  · split at hf
    · rename_i ps hps
      split at hf
      · rename_i hfew
        cases hf
        have e1 := pairs_of hps
        subst e1
        obtain ⟨x, rfl, h1⟩ := dv1 dv
        obtain ⟨l, ys, rfl, hl, hx⟩ := h1.tup_
        rw [Vals.ref1 r1]
        obtain ⟨its, rv, hT, _⟩ := I1.tuple (SqT.of (wd.sub _ _ hl))
        obtain ⟨ks, k1, k2, k3⟩ := pair_refs hx
        have kl : ks.length = ps.length := by
          have e := congrArg List.length k2
          rwa [List.length_map, List.length_map] at e
        subst k1
        refine set_corners (P := X.prog) (w := X.w) ks (I1.ok.hd hc) hT (by simpa using refs_of_vals rv) (fun p hp => I1.isT (SqT.of (wd.sub _ _ (k3 p hp)))) (by rw [kl]; exact hfew) (by omega) fun h' tk L es ep t R g hk => ?_
        refine PyProof.Rows.args_nil ?_
        obtain ⟨o, ho, hex, hd⟩ := R.ob
        have sz := SetTR.size (s := { s1 with heap := h', toks := tk }) R
        have len := got_len k2 g R.nd
        have hfew2 := R.few
        refine call_len_set ho hex hd (SetTR.fits (s := { s1 with heap := h', toks := tk }) R) (by rw [sz]; omega) ⟨.int (nub ps).length, H1, (I1.kept hk).tok _, ⟨_, by rw [sz, len]⟩, k.now wd (.inl (.int _))⟩
      · cases hf
    · cases hf
  · cases hf
end
end Md
-- Mt3
set_option Elab.async false
set_option linter.all false
set_option maxRecDepth 100000
set_option maxHeartbeats 4000000
/-! A small set (of at most four) whose members are nested tuples of ints. -/
namespace Mn
open PySem PySem.Spec PyProof.Rows PySem.W L2
set_option autoImplicit false
mutual
/-- ints, and tuples of such -/
def numK : NestedKey → Bool
  | .num _ => true
  | .tup ks => numKs ks
  | .none => false
  | .text _ => false
def numKs : List NestedKey → Bool
  | [] => true
  | k :: ks => numK k && numKs ks
end
section
variable {P : Program} {w : World}
def HashAt (P : Program) (w : World) (n : Nat) (s : Shared) (v : Value) : Prop := ∀ (A : Around) (E : Value → Shared → Prop) (Q : Bool → Shared → Prop), Q true s → wpAny (model P w) A (hashByValue n v) Q E s
def CleanAt (P : Program) (w : World) (n : Nat) (s : Shared) (v : Value) : Prop := ∀ (A : Around) (E : Value → Shared → Prop) (Q : Bool → Shared → Prop), Q false s → wpAny (model P w) A (ofAClassStatement n v) Q E s
theorem hash_tuple {n m : Nat} {s : Shared} {b : Addr} {o : Obj} {vs : Array Value} (ho : s.heap.get? b = some o) (hc : o.cls = .type "tuple") (hd : o.data = .seq vs m) (hv : ∀ v ∈ vs.toList, HashAt P w n s v) : HashAt P w (n + 1) s (.ref b) := fun A E Q h => by
  have ty : s.TypeIs (.ref b) "tuple" := ⟨o, ho, hc⟩
  unfold hashByValue
  refine wpAny_bind (wpAny_specialOf ty F.slot_tuple_hash.lookup ?_)
  show wpAny _ _ (seqItems? (.ref b) >>= _) _ _ s
  refine wpAny_bind (wpAny_seqItems ho hd ?_)
  refine wpAny_bind ?_
  show wpAny _ _ (forIn vs _ _) _ _ s
  rw [← Array.forIn_toList]
  refine wpAny_forIn_list _ (fun l r t => r.1 = none ∧ t = s ∧ ∀ v ∈ l, HashAt P w n s v) _ ?_ ?_ _ _ ⟨rfl, rfl, hv⟩
  · rintro v l r t ⟨_, rfl, hl⟩
    refine wpAny_bind (hl v List.mem_cons_self _ _ _ ?_)
    simp only [Bool.not_true, Bool.false_eq_true, if_false]
    exact wpAny_pure ⟨rfl, rfl, fun u hu => hl u (List.mem_cons_of_mem _ hu)⟩
  · rintro ⟨r1, r2⟩ t ⟨hr, rfl, _⟩
    simp only at hr
    subst hr
    exact wpAny_pure h
theorem clean_tuple {n m : Nat} {s : Shared} {b : Addr} {o : Obj} {vs : Array Value} (ho : s.heap.get? b = some o) (hc : o.cls = .type "tuple") (hd : o.data = .seq vs m) (hv : ∀ v ∈ vs.toList, CleanAt P w n s v) : CleanAt P w (n + 1) s (.ref b) := fun A E Q h => by
  have ty : s.TypeIs (.ref b) "tuple" := ⟨o, ho, hc⟩
  unfold ofAClassStatement
  refine wpAny_bind (wpAny_typeOf ty ?_)
  dsimp only
  have et : (("tuple" : String) == "tuple") = true := by decide
  simp only [et, if_true, Bool.not_true, Bool.false_eq_true, if_false]
  try refine wpAny_bind (wpAny_pure ?_)
  try simp only [Bool.not_true, Bool.false_eq_true, if_false]
  show wpAny _ _ (seqItems? (.ref b) >>= _) _ _ s
  refine wpAny_bind (wpAny_seqItems ho hd ?_)
  dsimp only
  refine wpAny_bind ?_
  show wpAny _ _ (forIn vs _ _) _ _ s
  rw [← Array.forIn_toList]
  refine wpAny_forIn_list _ (fun l r t => r.1 = none ∧ t = s ∧ ∀ v ∈ l, CleanAt P w n s v) _ ?_ ?_ _ _ ⟨rfl, rfl, hv⟩
  · rintro v l r t ⟨_, rfl, hl⟩
    refine wpAny_bind (hl v List.mem_cons_self _ _ _ ?_)
    simp only [Bool.false_eq_true, if_false]
    exact wpAny_pure ⟨rfl, rfl, fun u hu => hl u (List.mem_cons_of_mem _ hu)⟩
  · rintro ⟨r1, r2⟩ t ⟨hr, rfl, _⟩
    simp only at hr
    subst hr
    exact wpAny_pure h
mutual
theorem hash_key : ∀ (k : NestedKey) (v : Value) (n : Nat) (s : Shared), NestedIs s.heap k v → numK k = true → k.depth ≤ n → HashAt P w n s v
  | .none, _, _, _, _, hn, _ => by cases hn
  | .text _, _, _, _, _, hn, _ => by cases hn
  | .num i, _, n, s, x, _, _ => by
    intro A E Q h
    cases x with
    | bool _ => cases n <;> exact wpAny_pure h
    | int _ t => cases n <;> exact wpAny_pure h
  | .tup ks, _, n, s, x, hn, hd => by
    cases x with
    | tup hg hc hda hk =>
      simp only [NestedKey.depth] at hd
      unfold numK at hn
      cases n with
      | zero => omega
      | succ n => exact hash_tuple hg hc hda (hash_keys ks _ n s hk hn (by omega))
theorem hash_keys : ∀ (ks : List NestedKey) (vs : List Value) (n : Nat) (s : Shared), NestedAll s.heap ks vs → numKs ks = true → NestedKey.depthAll ks ≤ n → ∀ v ∈ vs, HashAt P w n s v
  | [], _, _, _, x, _, _, v, hv => by
    cases x
    cases hv
  | k :: ks, _, n, s, x, hn, hd, v, hv => by
    cases x with
    | cons x1 x2 =>
      simp only [NestedKey.depthAll] at hd
      unfold numKs at hn
      rw [Bool.and_eq_true] at hn
      rcases List.mem_cons.mp hv with e | hv
      · rw [e]
        exact hash_key k _ n s x1 hn.1 (by omega)
      · exact hash_keys ks _ n s x2 hn.2 (by omega) v hv
end
mutual
theorem clean_key : ∀ (k : NestedKey) (v : Value) (n : Nat) (s : Shared), NestedIs s.heap k v → numK k = true → k.depth ≤ n → CleanAt P w n s v
  | .none, _, _, _, _, hn, _ => by cases hn
  | .text _, _, _, _, _, hn, _ => by cases hn
  | .num i, _, n, s, x, _, _ => by
    intro A E Q h
    cases x with
    | bool _ => cases n <;> exact wpAny_pure h
    | int _ t => cases n <;> exact wpAny_pure h
  | .tup ks, _, n, s, x, hn, hd => by
    cases x with
    | tup hg hc hda hk =>
      simp only [NestedKey.depth] at hd
      unfold numK at hn
      cases n with
      | zero => omega
      | succ n => exact clean_tuple hg hc hda (clean_keys ks _ n s hk hn (by omega))
theorem clean_keys : ∀ (ks : List NestedKey) (vs : List Value) (n : Nat) (s : Shared), NestedAll s.heap ks vs → numKs ks = true → NestedKey.depthAll ks ≤ n → ∀ v ∈ vs, CleanAt P w n s v
  | [], _, _, _, x, _, _, v, hv => by
    cases x
    cases hv
  | k :: ks, _, n, s, x, hn, hd, v, hv => by
    cases x with
    | cons x1 x2 =>
      simp only [NestedKey.depthAll] at hd
      unfold numKs at hn
      rw [Bool.and_eq_true] at hn
      rcases List.mem_cons.mp hv with e | hv
      · rw [e]
        exact clean_key k _ n s x1 hn.1 (by omega)
      · exact clean_keys ks _ n s x2 hn.2 (by omega) v hv
end
/-- the tuple at a is the key k (ints only) -/
structure IsN (h : Heap) (k : NestedKey) (a : Addr) : Prop where
  is : NestedIs h k (.ref a)
  num : numK k = true
  dp : k.depth ≤ 8
theorem IsN.keep {h h' : Heap} {k : NestedKey} {a : Addr} (x : IsN h k a) (hk : ∀ b o vs n, h.get? b = some o → o.data = .seq vs n → h'.get? b = some o) : IsN h' k a := ⟨NestedIs.at hk k _ x.is, x.num, x.dp⟩
theorem IsN.inj {h : Heap} {k k' : NestedKey} {a : Addr} (x : IsN h k a) (y : IsN h k' a) : k = k' := NestedIs.inj _ _ _ x.is y.is
/-- the search among such shows nothing -/
theorem unseen {A : Around} {E : Value → Shared → Prop} {s : Shared} {k : NestedKey} {b : Addr} {Q : Bool → Shared → Prop} (hk : IsN s.heap k b) {ys : List Value} (hy : ∀ y ∈ ys, ∃ k' c, y = Value.ref c ∧ IsN s.heap k' c) (h : Q false s) :
    wpAny (model P w) A (searchCouldBeSeen (.ref b) ys) Q E s := by
  unfold searchCouldBeSeen
  refine wpAny_bind ?_
  refine wpAny_forIn_list _ (fun l r t => r.1 = none ∧ t = s ∧ ∀ y ∈ l, ∃ k' c, y = Value.ref c ∧ IsN s.heap k' c) _ ?_ ?_ _ _ ⟨rfl, rfl, hy⟩
  · rintro v l r t ⟨hr, rfl, hl⟩
    obtain ⟨k', c, rfl, hc⟩ := hl v List.mem_cons_self
    have next : ∀ y ∈ l, ∃ k' c, y = Value.ref c ∧ IsN t.heap k' c := fun u hu => hl u (List.mem_cons_of_mem _ hu)
    dsimp only
    by_cases hv : (b == c || (carriedByValue (.ref b) && carriedByValue (.ref c))) = true
    · exact wp_if_pos hv (wpAny_pure ⟨rfl, rfl, next⟩)
    · refine wp_if_neg hv ?_
      refine wpAny_bind (quiet_key k _ 8 t hk.is hk.dp _ _ _ ?_)
      simp only [Bool.not_true, Bool.false_eq_true, if_false]
      refine wpAny_bind (quiet_key k' _ 8 t hc.is hc.dp _ _ _ ?_)
      simp only [Bool.not_true, Bool.false_eq_true, if_false]
      refine wpAny_bind (clean_key k _ 8 t hk.is hk.num hk.dp _ _ _ ?_)
      simp only [Bool.false_eq_true, if_false]
      refine wpAny_bind (clean_key k' _ 8 t hc.is hc.num hc.dp _ _ _ ?_)
      simp only [Bool.false_eq_true, if_false]
      exact wpAny_pure ⟨rfl, rfl, next⟩
  · rintro ⟨r1, r2⟩ t ⟨hr, rfl, _⟩
    simp only at hr
    subst hr
    exact wpAny_pure h
end
end Mn
-- Mt4
set_option Elab.async false
set_option linter.all false
set_option maxRecDepth 100000
set_option maxHeartbeats 4000000
/-! The small set: searching, adding, set.update's loop. -/
namespace Mn
open PySem PySem.Spec PyProof.Rows PySem.W L2
set_option autoImplicit false
abbrev Lx := List (Addr × NestedKey)
def rowsN (w : World) (L : Lx) : List (Int × Value) := L.map fun p => (p.2.hash w, Value.ref p.1)
abbrev hs (w : World) (L : Lx) : List Int := L.map fun p => p.2.hash w
structure NS (w : World) (h : Heap) (a : Addr) (L : Lx) (es : Array (Int × Value)) (ep : Nat) (t : SetTable) : Prop where
  ob : ∃ o, h.get? a = some o ∧ o.ExactSet ∧ o.data = .set es ep t
  rows : es.toList = rowsN w L
  tab : TabOk t (hs w L)
  nd : (L.map (·.2)).Nodup
  mem : ∀ p ∈ L, IsN h p.2 p.1
  plain : t.plain = true
  led : w.params.followText "set-order" = true ∨ t.led = true
  mask : t.mask = 7
  few : L.length ≤ 4
section
variable {P : Program} {w : World} {A : Around} {E : Value → Shared → Prop} {s : Shared} {h h' : Heap} {a x : Addr} {L : Lx} {es : Array (Int × Value)} {ep : Nat} {t : SetTable} {k : NestedKey}
theorem NS.size (R : NS w h a L es ep t) : es.size = L.length := by
  have e := congrArg List.length R.rows
  unfold rowsN at e
  rwa [Array.length_toList, List.length_map] at e
theorem NS.psz (R : NS w h a L es ep t) : t.place.size = L.length := by
  have e := R.tab.sz
  rwa [List.length_map] at e
theorem NS.fits (R : NS w h a L es ep t) : t.fits es.size = true := by
  have e1 := R.psz
  have e2 := R.size
  have e3 := R.mask
  have e4 := R.few
  unfold SetTable.fits SetTable.fill
  rw [R.tab.dm, Bool.and_eq_true, beq_iff_eq, decide_eq_true_eq]
  show t.place.size = es.size ∧ t.place.size + 0 ≤ t.mask
  omega
theorem NS.at_ (R : NS w h a L es ep t) {i : Nat} {p : Addr × NestedKey} (e : L[i]? = some p) : es[i]? = some (p.2.hash w, Value.ref p.1) := by
  rw [← Array.getElem?_toList, R.rows]
  unfold rowsN
  rw [List.getElem?_map, e] <;> rfl
theorem NS.keep (R : NS w h a L es ep t) (ha : ∀ o, h.get? a = some o → h'.get? a = some o) (hk : ∀ b o vs n, h.get? b = some o → o.data = .seq vs n → h'.get? b = some o) : NS w h' a L es ep t := by
  obtain ⟨o, ho, r⟩ := R.ob
  exact ⟨⟨o, ha o ho, r⟩, R.rows, R.tab, R.nd, fun p hp => (R.mem p hp).keep hk, R.plain, R.led, R.mask, R.few⟩
/-- the c-th state of the way of hash z -/
abbrev stp (m : Nat) (z : Int) (c : Nat) : SetTable.Probe := nth m (runAt m (SetTable.bits z % (m + 1)) (SetTable.bits z)) c
theorem stp_plain (m : Nat) (z : Int) (c : Nat) : (stp m z c).dummy = none := by
  have key : ∀ (n : Nat) (p : SetTable.Probe), p.dummy = none → (nth m p n).dummy = none := by
    intro n
    induction n with
    | zero => exact fun p h => h
    | succ n ih =>
      intro p hp
      refine ih _ ?_
      unfold adv
      split <;> exact hp
  exact key c _ rfl
theorem seek (R : NS w s.heap a L es ep t) (hx : IsN s.heap k x) (hu : A.units + 8 < cLine) {K : Nat} (hKf : K < 10 * SetTable.turns t.mask) (hK : way t.mask (k.hash w) K ∉ t.place.toList) (hKb : ∀ c, c < K → way t.mask (k.hash w) c ∈ t.place.toList)
    {Q : SetFound → Shared → Prop} (hin : k ∈ L.map (·.2) → Q (.there none) s) (hout : k ∉ L.map (·.2) → Q (.free (way t.mask (k.hash w) K) false) s) :
    ∀ (f c : Nat) (st : Option SetTable.Probe), st.getD (t.probeStart (k.hash w)) = stp t.mask (k.hash w) c → c ≤ K → K - c < f →
      (∀ (i : Nat) p, L[i]? = some p → p.2 = k → ∃ c', c ≤ c' ∧ c' < K ∧ t.place.toList[i]? = some (way t.mask (k.hash w) c')) →
      wpAny (model P w) A (setSearchFrom a (.ref x) (k.hash w) true f st) Q E s := by
  intro f
  induction f with
  | zero => exact fun c st _ _ hf => absurd hf (Nat.not_lt_zero _)
  | succ f ih =>
    intro c st hst hc hf hre
    obtain ⟨o, ho, hex, hd⟩ := R.ob
    generalize hz : k.hash w = z at *
    have gw : ¬ t.gaveWay = true := by
      unfold SetTable.gaveWay
      rw [R.mask]
      decide
    rw [setSearchFrom_succ]
    refine wpAny_bind (wpAny_setState_of ho hd R.fits ?_)
    dsimp only
    refine wp_if_neg gw ?_
    try refine wpAny_bind (wpAny_pure ?_)
    have sum : ∀ q, nth t.mask (stp t.mask z c) q = stp t.mask z (c + q) := fun q => (nth_add t.mask c _ q).symm
    have sumj : ∀ q, (nth t.mask (stp t.mask z c) q).j = way t.mask z (c + q) := fun q => congrArg SetTable.Probe.j (sum q)
    have hKc : c + (K - c) = K := Nat.add_sub_cancel' hc
    have spec := go_spec t R.tab.ris R.tab.dm (fun i => (es[i]?.map (·.1)).getD 0) z (10 * SetTable.turns t.mask) (K - c) (stp t.mask z c) (stp_plain _ _ _) (by omega)
      (fun q hq => by rw [sumj]; exact hKb _ (by omega)) (by rw [sumj, hKc]; exact hK)
    have hAt : ∀ (i : Nat) p, L[i]? = some p → (fun i => (es[i]?.map (·.1)).getD 0) i = p.2.hash w := fun i p hp => by
      show (es[i]?.map (·.1)).getD 0 = _
      rw [R.at_ hp] <;> rfl
    rcases spec with ⟨q, i, hq, hi, hh, hno, hpr⟩ | ⟨hno, hpr⟩
    · have hpr2 : t.probe (fun i => (es[i]?.map (·.1)).getD 0) z (st.getD (t.probeStart z)) = some (.candidate (way t.mask z (c + q)) i (stp t.mask z (c + (q + 1)))) := by
        rw [hst, ← sumj, ← sum]
        exact hpr
      rw [hpr2]
      dsimp only
      rw [sumj] at hi
      have hil : i < L.length := by
        have h1 := (List.getElem?_eq_some_iff.mp hi).1
        rw [Array.length_toList, R.psz] at h1
        exact h1
      obtain ⟨p, hp⟩ : ∃ p, L[i]? = some p := ⟨_, List.getElem?_eq_getElem hil⟩
      have hpm : p ∈ L := List.mem_of_getElem? hp
      have hpN := R.mem p hpm
      have rest : wpAny (model P w) A (searchRest a (.ref x) z true f es t (way t.mask z (c + q)) i (stp t.mask z (c + (q + 1)))) Q E s := by
        unfold searchRest
        rw [R.at_ hp]
        dsimp only
        refine wpAny_bind (wpAny_holding ((nestedKind P w).eqBool (x := p.2) (y := k) hu ⟨hpN.is, hpN.dp⟩ ⟨hx.is, hx.dp⟩ ?_))
        refine wpAny_bind (wpAny_setState_of ho hd R.fits ?_)
        dsimp only
        by_cases hkk : p.2 = k
        · exact wp_if_pos (by simp [hkk]) (wpAny_pure (hin (List.mem_map.mpr ⟨p, hpm, hkk⟩)))
        · refine wp_if_neg (by simp [hkk]) ?_
          try refine wpAny_bind (wpAny_pure ?_)
          rw [sameMem]
          dsimp only
          have sl : t.slot (way t.mask z (c + q)) = .live i := slot_live R.tab.ris hi
          simp only [if_true, sl, R.at_ hp]
          refine wpAny_bind (wpAny_isSame_ref_self (wpAny_bind (wpAny_pure ?_)))
          simp only [if_true]
          refine wp_if_neg (by simp [hkk]) ?_
          refine ih (c + (q + 1)) _ rfl (by omega) (by omega) fun i0 p0 h0 hk0 => ?_
          obtain ⟨c', a1, a2, a3⟩ := hre i0 p0 h0 hk0
          refine ⟨c', ?_, a2, a3⟩
          have hp0 : p0.2.hash w = z := by rw [hk0, hz]
          rcases Nat.lt_trichotomy c' (c + q) with y | y | y
          · exact absurd ((hAt i0 p0 h0).trans hp0) (hno (c' - c) i0 (by omega) (by rw [sumj, Nat.add_sub_cancel' a1]; exact a3))
          · rw [y] at a3
            have s0 := slot_live R.tab.ris a3
            rw [sl] at s0
            injection s0 with s0
            rw [← s0, hp] at h0
            exact absurd ((congrArg Prod.snd (Option.some.inj h0)).trans hk0) hkk
          · omega
      by_cases hl : t.led = true
      · refine wp_if_neg (by simp [hl]) ?_
        try refine wpAny_bind (wpAny_pure ?_)
        exact rest
      · refine wp_if_pos (by simp [hl]) ?_
        refine wpAny_bind (unseen hx (fun y hy => ?_) (wp_if_neg (by decide) ?_))
        · obtain ⟨e, he, ee⟩ := List.mem_map.mp hy
          have he1 : e ∈ es ∧ e.1 = z := by simpa using he
          have he2 : e ∈ es.toList := by simpa using he1.1
          rw [R.rows] at he2
          obtain ⟨p2, hp2, e2⟩ := List.mem_map.mp he2
          exact ⟨p2.2, p2.1, by rw [← ee, ← e2], R.mem p2 hp2⟩
        · try refine wpAny_bind (wpAny_pure ?_)
          exact rest
    · have hpr2 : t.probe (fun i => (es[i]?.map (·.1)).getD 0) z (st.getD (t.probeStart z)) = some (.empty (way t.mask z K) none) := by
        have e2 : way t.mask z K = (nth t.mask (stp t.mask z c) (K - c)).j := by rw [sumj, hKc]
        rw [hst, e2]
        exact hpr
      rw [hpr2]
      dsimp only
      refine wpAny_pure (hout fun hm => ?_)
      obtain ⟨p0, h0, hk0⟩ := List.mem_map.mp hm
      obtain ⟨i0, hi0, e0⟩ := List.getElem_of_mem h0
      have h00 : L[i0]? = some p0 := by rw [List.getElem?_eq_getElem hi0, e0]
      obtain ⟨c', a1, a2, a3⟩ := hre i0 p0 h00 hk0
      exact hno (c' - c) i0 (by omega) (by rw [sumj, Nat.add_sub_cancel' a1]; exact a3) ((hAt i0 p0 h00).trans (by rw [hk0, hz]))
theorem search (R : NS w s.heap a L es ep t) (hx : IsN s.heap k x) (hu : A.units + 8 < cLine) {Q : SetFound → Shared → Prop} (hin : k ∈ L.map (·.2) → Q (.there none) s)
    (hout : ∀ K, k ∉ L.map (·.2) → way t.mask (k.hash w) K ∉ t.place.toList → (∀ c, c < K → way t.mask (k.hash w) c ∈ t.place.toList) → Q (.free (way t.mask (k.hash w) K) false) s) :
    wpAny (model P w) A (setSearch a (.ref x) (k.hash w) true) Q E s := by
  have hm := R.mask
  have hf := R.few
  obtain ⟨K, hKf, hK, hKb⟩ := R.tab.first (by rw [List.length_map]; omega) (k.hash w)
  have big : K < 100000 := by
    unfold SetTable.turns at hKf
    omega
  unfold setSearch
  refine seek R hx hu hKf hK hKb hin (fun hn => hout K hn hK hKb) 100000 0 none rfl (Nat.zero_le _) (by omega) fun i p hp hk => ?_
  have hi : (hs w L)[i]? = some (k.hash w) := by rw [List.getElem?_map, hp, ← hk] <;> rfl
  have hil : i < t.place.toList.length := by
    rw [Array.length_toList, R.psz]
    exact (List.getElem?_eq_some_iff.mp hp).1
  have hj := List.getElem?_eq_getElem hil
  obtain ⟨c, hc, e⟩ := R.tab.before hK hi hj
  exact ⟨c, Nat.zero_le _, hc, by rw [hj, e]⟩
end
end Mn
-- Mt5
set_option Elab.async false
set_option linter.all false
set_option maxRecDepth 100000
set_option maxHeartbeats 4000000
/-! The small set: adding, the loop of set.update, set(l). -/
namespace Mn
open PySem PySem.Spec PyProof.Rows PySem.W L2
set_option autoImplicit false
/-- what came from the first i -/
structure Has (ks : Lx) (i : Nat) (L : Lx) : Prop where
  sub : ∀ p ∈ L, p ∈ ks.take i
  all : ∀ p ∈ ks.take i, p.2 ∈ L.map (·.2)
  len : L.length ≤ i
section
variable {P : Program} {w : World} {A : Around} {E : Value → Shared → Prop} {s : Shared} {h h' : Heap} {a x : Addr} {L : Lx} {es : Array (Int × Value)} {ep : Nat} {t : SetTable} {k : NestedKey}
theorem add (R : NS w s.heap a L es ep t) (hx : IsN s.heap k x) (hu : A.units + 8 < cLine) (hfew : L.length + 1 ≤ 4) {Q : Bool → Shared → Prop}
    (hQ : ∀ b h2 L2 es2 ep2 t2, Heap.SameBut a s.heap h2 → NS w h2 a L2 es2 ep2 t2 → (k ∈ L.map (·.2) → L2 = L) → (k ∉ L.map (·.2) → L2.Perm ((x, k) :: L)) → Q b { s with heap := h2 }) :
    wpAny (model P w) A (setAddHashed a (.ref x) (k.hash w)) Q E s := by
  obtain ⟨o, ho, hex, hd⟩ := R.ob
  have sz := R.size
  have hm := R.mask
  unfold setAddHashed
  refine wpAny_holding ?_
  rw [show (100000 : Nat) = 99999 + 1 from rfl, setAddHashedIn_succ]
  refine wpAny_bind (wpAny_setState_of ho hd R.fits ?_)
  dsimp only
  refine wp_if_neg (by simp [byScan, Value.scannable]) ?_
  try refine wpAny_bind (wpAny_pure ?_)
  refine wpAny_bind (search R hx hu (fun hin => ?_) fun K hout hK hb => ?_)
  · dsimp only
    exact wpAny_pure (hQ false s.heap L es ep t (Heap.SameBut.refl a s.heap) R (fun _ => rfl) fun z => absurd hin z)
  · dsimp only
    refine wpAny_bind (wpAny_setState_of ho hd R.fits ?_)
    dsimp only
    obtain ⟨q1, q2, q3, q4, q5, q6, q7, q8, q9⟩ := R.tab.put hK hb
    have pl1 : (t.put (way t.mask (k.hash w) K)).1.plain = true := q6.trans R.plain
    generalize t.put (way t.mask (k.hash w) K) = pt at q1 q3 q4 q5 q6 q7 q8 q9 pl1 ⊢
    obtain ⟨t1, j⟩ := pt
    dsimp only at q1 q3 q4 q5 q6 q7 q8 q9 pl1 ⊢
    rw [← q1] at q2 q3
    have hkey := hash_key (P := P) (w := w) k (.ref x) 8 s hx.is hx.num hx.dp
    first
      | (refine wpAny_bind ?_; refine wp_if_pos pl1 ?_; refine hkey _ _ _ ?_)
      | refine wp_if_pos pl1 (wpAny_bind (hkey _ _ _ ?_))
    simp only [if_true]
    have ins : (SetTable.insertAt es j (k.hash w, Value.ref x)).toList = rowsN w (L.take j ++ (x, k) :: L.drop j) := by
      rw [SetTable.toList_insertAt, R.rows]
      unfold rowsN
      rw [List.map_append, List.map_cons, List.map_take, List.map_drop]
    have pm := put_perm L j (x, k)
    have ln : (L.take j ++ (x, k) :: L.drop j).length = L.length + 1 := pm.length_eq
    have hh1 : hs w (L.take j ++ (x, k) :: L.drop j) = (hs w L).take j ++ k.hash w :: (hs w L).drop j := by
      show (L.take j ++ (x, k) :: L.drop j).map (fun p : Addr × NestedKey => p.2.hash w) = (L.map fun p => p.2.hash w).take j ++ k.hash w :: (L.map fun p => p.2.hash w).drop j
      rw [List.map_append, List.map_cons, List.map_take, List.map_drop]
    rw [← hh1] at q3
    have nd1 : ((L.take j ++ (x, k) :: L.drop j).map (·.2)).Nodup := (pm.map (·.2)).nodup_iff.mpr (by
      rw [List.map_cons]
      exact List.nodup_cons.mpr ⟨hout, R.nd⟩)
    have sz1 : (SetTable.insertAt es j (k.hash w, Value.ref x)).size = L.length + 1 := by
      have e := congrArg List.length ins
      unfold rowsN at e
      rwa [Array.length_toList, List.length_map, ln] at e
    generalize SetTable.insertAt es j (k.hash w, Value.ref x) = es1 at ins sz1 ⊢
    generalize L.take j ++ (x, k) :: L.drop j = L1 at pm ln q3 nd1 ins
    refine wpAny_bind (wpAny_storeSet_of ho hd ?_ (by rw [sz1, sizeLine_eq]; omega))
    have sb : Heap.SameBut a s.heap (s.heap.update a (Obj.putSet es1 t1)) := Heap.SameBut.update ..
    have ho1 := store_at (es' := es1) (t' := t1) ho hd
    generalize s.heap.update a (Obj.putSet es1 t1) = h1 at sb ho1 ⊢
    have nseq : ∀ b ob vs n, s.heap.get? b = some ob → ob.data = .seq vs n → h1.get? b = some ob := fun b ob vs n e ed => by
      refine (sb.2 b fun z => ?_).trans e
      rw [z, ho] at e
      rw [← Option.some.inj e, hd] at ed
      cases ed
    have mem1 : ∀ p ∈ L1, IsN h1 p.2 p.1 := fun p hp => by
      rcases List.mem_cons.mp (pm.mem_iff.mp hp) with e | hp
      · rw [e]
        exact hx.keep nseq
      · exact (R.mem p hp).keep nseq
    have nf : ¬ t1.tooFull = true := by
      unfold SetTable.tooFull
      rw [decide_eq_true_eq, q9, q4, hm, List.length_map]
      omega
    have fin : wpAny (model P w) A (pure true) Q E { s with heap := h1 } := wpAny_pure (hQ true h1 L1 es1 (ep + 1) t1 sb ⟨⟨_, ho1, ⟨hex.1, hex.2.1, hex.2.2⟩, rfl⟩, ins, q3, nd1, mem1, pl1, by rw [q5]; exact R.led, q4.trans hm, by omega⟩ (fun z => absurd z hout) fun _ => pm)
    first
      | exact wp_if_neg (by simp [nf]) fin
      | (refine wpAny_bind ?_; refine wp_if_neg (by simp [nf]) ?_; exact wpAny_pure fin)
theorem ns_new (ho : h.get? a = some (Mz.newSet w)) : NS w h a [] #[] 0 (.fresh 0 0 (!w.params.followText "set-order")) where
  ob := ⟨_, ho, ⟨rfl, rfl, rfl⟩, rfl⟩
  rows := rfl
  tab := ⟨List.Pairwise.nil, rfl, rfl, .inl rfl, fun x hx => (by cases hx), fun i h j hi => (by simp at hi)⟩
  nd := List.nodup_nil
  mem := fun p hp => (by cases hp)
  plain := rfl
  led := by
    show _ ∨ (!w.params.followText "set-order") = true
    cases w.params.followText "set-order"
    · exact .inr rfl
    · exact .inl rfl
  mask := rfl
  few := Nat.zero_le _
theorem Has.same {ks : Lx} {i : Nat} {p : Addr × NestedKey} (g : Has ks i L) (e : ks[i]? = some p) (hm : p.2 ∈ L.map (·.2)) : Has ks (i + 1) L := by
  refine ⟨fun q hq => ?_, fun q hq => ?_, Nat.le_succ_of_le g.len⟩
  · rw [take_next e]
    exact List.mem_append_left _ (g.sub q hq)
  · rw [take_next e] at hq
    exact (List.mem_append.mp hq).elim (g.all q) fun z => by rw [List.mem_singleton.mp z]; exact hm
theorem Has.more {ks L2 : Lx} {i : Nat} {p : Addr × NestedKey} (g : Has ks i L) (e : ks[i]? = some p) (pm : L2.Perm (p :: L)) : Has ks (i + 1) L2 := by
  refine ⟨fun q hq => ?_, fun q hq => ?_, by rw [pm.length_eq, List.length_cons]; exact Nat.succ_le_succ g.len⟩
  · rw [take_next e]
    exact (List.mem_cons.mp (pm.mem_iff.mp hq)).elim (fun z => List.mem_append_right _ (List.mem_singleton.mpr z)) fun z => List.mem_append_left _ (g.sub q z)
  · rw [(pm.map (·.2)).mem_iff, List.map_cons]
    rw [take_next e] at hq
    exact (List.mem_append.mp hq).elim (fun z => List.mem_cons_of_mem _ (g.all q z)) fun z => by rw [List.mem_singleton.mp z]; exact List.mem_cons_self
/-- the loop of set.update -/
theorem upd_loop {I S : Addr} {fp wr : List Addr} {G : Array GenState → Array GenState → Prop} {n : Nat} {Pv : Nat → Value → Prop} {St : Nat → Shared → Prop} {R : Result → Shared → Prop} (W : WalksS P w A.in1 I fp wr G n Pv St) (hSf : S ∉ fp) (ks : Lx) (hn : n = ks.length) (hfew : ks.length ≤ 4)
    (hval : ∀ i v, Pv i v → ∃ p, ks[i]? = some p ∧ v = .ref p.1) (h0 : Heap) (hk : ∀ p ∈ ks, IsN h0 p.2 p.1) (hS0 : h0.get? S = none) (hw0 : ∀ b ∈ wr, h0.get? b = none) (hu : A.in1.units + 8 < cLine) :
    ∀ (m i : Nat) (s : Shared), n - i = m → i ≤ n → St i s → (∀ b o, h0.get? b = some o → s.heap.get? b = some o) → (∃ L es ep t, NS w s.heap S L es ep t ∧ Has ks i L) →
      (∀ s' L es ep t, Moved (S :: wr) G s s' → NS w s'.heap S L es ep t → Has ks n L → (∀ b o, h0.get? b = some o → s'.heap.get? b = some o) → R (.ok (.ret .none)) s') →
      codeAny (model P w) A (.builtin "set.update.loop" ⟨[.ref S, .ref I], []⟩) R s := by
  have hSw : S ∉ wr := fun z => hSf (W.sub _ z)
  have wider : ∀ b ∈ wr, b ∈ S :: wr := fun b hb => List.mem_cons_of_mem _ hb
  have still : ∀ {s s' : Shared}, Moved wr G s s' → (∀ b o, h0.get? b = some o → s.heap.get? b = some o) → ∀ b o, h0.get? b = some o → s'.heap.get? b = some o := fun hm hkp b o e =>
    hm.heap b o (fun hb => by rw [hw0 b hb] at e; cases e) (hkp b o e)
  have isK : ∀ {g : Heap}, (∀ b o, h0.get? b = some o → g.get? b = some o) → ∀ p ∈ ks, IsN g p.2 p.1 := fun hkp p hp => (hk p hp).keep fun b o _ _ e _ => hkp b o e
  intro m
  induction m with
  | zero =>
    intro i s hm hi hst hkp ⟨L, es, ep, t, hS, g⟩ hR
    obtain rfl : i = n := by omega
    refine codeAny_builtin F.entry_set_update_loop ?_
    rw [Around.under_plainId F.plain_set_update_loop _]
    show wpAny _ A.in1 (pyNext (.ref I) >>= _) _ _ s
    refine wpAny_bind (W.done s _ _ hst fun s' hm' => ?_)
    show wpAny _ A.in1 (ret Value.none) _ _ s'
    have hkp' := still hm' hkp
    obtain ⟨o, ho, r⟩ := hS.ob
    exact wpAny_pure (hR s' L es ep t (hm'.mono wider) ⟨⟨o, hm'.heap S o hSw ho, r⟩, hS.rows, hS.tab, hS.nd, fun p hp => isK hkp' p (List.mem_of_mem_take (g.sub p hp)), hS.plain, hS.led, hS.mask, hS.few⟩ g hkp')
  | succ m ih =>
    intro i s hm hi hst hkp ⟨L, es, ep, t, hS, g⟩ hR
    have hlt : i < n := by omega
    refine codeAny_builtin F.entry_set_update_loop ?_
    rw [Around.under_plainId F.plain_set_update_loop _]
    show wpAny _ A.in1 (pyNext (.ref I) >>= _) _ _ s
    refine wpAny_bind (W.item i s _ _ hlt hst fun v s' hP hst' hm' => ?_)
    obtain ⟨p, hp, rfl⟩ := hval i v hP
    have hkp' := still hm' hkp
    have hS' : NS w s'.heap S L es ep t := by
      obtain ⟨o, ho, r⟩ := hS.ob
      exact ⟨⟨o, hm'.heap S o hSw ho, r⟩, hS.rows, hS.tab, hS.nd, fun p hp => isK hkp' p (List.mem_of_mem_take (g.sub p hp)), hS.plain, hS.led, hS.mask, hS.few⟩
    have hx : IsN s'.heap p.2 p.1 := isK hkp' p (List.mem_of_getElem? hp)
    show wpAny _ A.in1 (holding [Value.ref p.1] (setAdd S (.ref p.1)) >>= _) _ _ s'
    refine wpAny_bind (wpAny_holding ?_)
    unfold setAdd
    refine wpAny_holding ?_
    refine wpAny_bind (pyHash_key p.2 _ _ s' _ hx.is (by have := hx.dp; omega) ?_)
    refine add (s := { s' with toks := s'.toks + p.2.draws }) hS' hx hu (by have := g.len; omega) fun b h2 L2 es2 ep2 t2 hsb hS2 c1 c2 => ?_
    have g2 : Has ks (i + 1) L2 := by
      rcases Classical.em (p.2 ∈ L.map (·.2)) with c | c
      · rw [c1 c]
        exact g.same hp c
      · exact g.more hp (c2 c)
    have hkp2 : ∀ b o, h0.get? b = some o → h2.get? b = some o := fun b o e => (hsb.2 b (fun z => by rw [z, hS0] at e; cases e)).trans (hkp' b o e)
    refine wpAny_pure ⟨plainId_quiet F.plain_set_update_loop _, ih (i + 1) _ (by omega) hlt (W.frame _ s' _ _ hst' (Nat.le_add_right _ _) fun b hb o e => ?_) hkp2 ⟨L2, es2, ep2, t2, hS2, g2⟩ fun s3 L3 es3 ep3 t3 hm3 hS3 g3 hkp3 => ?_⟩
    · exact (hsb.2 b (fun z : b = S => hSf (z ▸ hb))).trans e
    · exact hR s3 L3 es3 ep3 t3 (Moved.trans W.gtrans ((hm'.mono wider).then_heap (Nat.le_add_right _ _) fun b o hb e => (hsb.2 b (fun z : b = S => hb (by rw [z]; exact List.mem_cons_self))).trans e) hm3) hS3 g3 hkp3
/-- set(l), l a list of at most four nested tuples of ints -/
theorem set_small {l : Addr} {items : Array Value} (ks : Lx) {Q : Value → Shared → Prop} (hh : A.handled = none) (hl : s.heap.IsList l items) (hit : items.toList = ks.map fun p => Value.ref p.1) (hk : ∀ p ∈ ks, IsN s.heap p.2 p.1) (hfew : ks.length ≤ 4) (hu : A.units + 16 < cLine)
    (h : ∀ (h' : Heap) (tk : Nat) L es ep t, NS w h' s.heap.objs.size L es ep t → Has ks ks.length L → (∀ b o, s.heap.get? b = some o → h'.get? b = some o) → Q (.ref s.heap.objs.size) { s with heap := h', toks := tk }) :
    wpAny (model P w) A (call (.type "set") [.ref l]) Q E s := by
  obtain ⟨oX, hoX, hcX, nX, hdX⟩ := id hl
  have hn : items.size = ks.length := by
    have q := congrArg List.length hit
    rwa [Array.length_toList, List.length_map] at q
  have lS : l < s.heap.objs.size := Heap.lt_size hoX
  have none_of : ∀ b, s.heap.objs.size ≤ b → s.heap.get? b = none := fun b hb => by
    cases q : s.heap.get? b with
    | none => rfl
    | some o => exact absurd (Nat.lt_of_lt_of_le (Heap.lt_size q) hb) (Nat.lt_irrefl _)
  refine Mz.set_of (Done := fun h' => (∃ L es ep t, NS w h' s.heap.objs.size L es ep t ∧ Has ks ks.length L) ∧ ∀ b o, s.heap.get? b = some o → h'.get? b = some o) hoX hcX PySem.F.sub_list_set PySem.F.sub_list_frozenset (by decide)
    (oI := { cls := .type "list_iterator", data := .fields #[.ref l, .int 0 0] }) (fun B E2 Q2 s2 e q => wpAny_pyIter_list (items := items) ⟨oX, e, hcX, nX, hdX⟩ q) (fun R hR => ?_) fun h' tk ⟨⟨L, es, ep, t, h1, h2⟩, h3⟩ => h h' tk L es ep t h1 h2 h3
  have z1 : (s.heap.push (Mz.newSet w)).objs.size = s.heap.objs.size + 1 := Heap.size_push ..
  have up : ∀ b o, s.heap.get? b = some o → ((s.heap.push (Mz.newSet w)).push { cls := .type "list_iterator", data := .fields #[.ref l, .int 0 0] }).get? b = some o := fun b o e => Heap.get?_push_of_some _ (Heap.get?_push_of_some _ e)
  have gS : ((s.heap.push (Mz.newSet w)).push { cls := .type "list_iterator", data := .fields #[.ref l, .int 0 0] }).get? s.heap.objs.size = some (Mz.newSet w) := Heap.get?_push_of_some _ (Heap.get?_push_size _ rfl)
  have gI : ((s.heap.push (Mz.newSet w)).push { cls := .type "list_iterator", data := .fields #[.ref l, .int 0 0] }).get? (s.heap.objs.size + 1) = some { cls := .type "list_iterator", data := .fields #[.ref l, .int 0 0] } := by
    rw [← z1]
    exact Heap.get?_push_size _ rfl
  have W := Walks.list (prog := P) (w := w) (A := A.in1.in1.in1) (by simpa using hh) (s.heap.objs.size + 1) l (Nat.ne_of_lt (Nat.lt_succ_of_lt lS)) items
  refine upd_loop W.toS (S := s.heap.objs.size) (fun hm => ?_) ks hn hfew (fun i v hv => ?_) s.heap hk (none_of _ (Nat.le_refl _)) (fun b hb => ?_) (by show A.units + 3 + 8 < _; omega) (items.size - 0) 0 _ rfl (Nat.zero_le _) ⟨⟨_, gI, rfl, rfl⟩, oX, up _ _ hoX, hcX, nX, hdX⟩ up
    ⟨[], #[], 0, _, ns_new gS, ⟨fun p z => absurd z List.not_mem_nil, fun p z => absurd z List.not_mem_nil, Nat.le_refl _⟩⟩ fun s' L es ep t hm hS g hkp => ?_
  · rcases List.mem_cons.mp hm with e | hm
    · exact absurd e (Nat.ne_of_lt (Nat.lt_succ_self _))
    · exact absurd (List.mem_singleton.mp hm) (Nat.ne_of_gt lS)
  · have q : items.toList[i]? = some v := by
      rw [Array.getElem?_toList]
      exact hv
    rw [hit, List.getElem?_map] at q
    obtain ⟨p, hp, e⟩ := Option.map_eq_some_iff.mp q
    exact ⟨p, hp, e.symm⟩
  · rw [List.mem_singleton.mp hb]
    exact none_of _ (Nat.le_succ _)
  · rw [hn] at g
    have e : s' = { s with heap := s'.heap, toks := s'.toks } := by
      obtain ⟨h', g2, d', tk', os'⟩ := s'
      have eg : g2 = s.gens := hm.gens
      have ed : d' = s.drawn := hm.drawn
      have eo : os' = s.os := hm.os
      rw [eg, ed, eo]
    rw [e]
    exact hR _ _ ⟨⟨L, es, ep, t, hS, g⟩, hkp⟩
end
end Mn
-- Mt6
set_option Elab.async false
set_option linter.all false
set_option maxRecDepth 100000
set_option maxHeartbeats 4000000
/-! sorted(set(l)), l a list of at most four edges. -/
namespace Md
open PySem PySem.Spec PyProof.Rows L2
set_option autoImplicit false
abbrev Ed := Pr × Pr
def enc2 (e : Ed) : Dt := .tuple [enc e.1, enc e.2]
def edges? : List Dt → Option (List Ed)
  | [] => some []
  | .tuple [.tuple [.int a, .int b], .tuple [.int c, .int d]] :: r => match edges? r with
    | some l => some (((a, b), (c, d)) :: l)
    | none => none
  | _ :: _ => none
theorem edges_of : ∀ {ds : List Dt} {ps : List Ed}, edges? ds = some ps → ds = ps.map enc2
  | [], _, h => by
    cases h
    rfl
  | d :: ds, ps, h => by
    unfold edges? at h
    split at h
    · rename_i e
      cases e
    · rename_i a b c d r e
      cases e
      split at h
      · rename_i l hl
        cases h
        rw [edges_of hl] <;> rfl
      · cases h
    · cases h
/-- e stands before f -/
def ltE (e f : Ed) : Bool := if e.1 == f.1 then ltP e.2 f.2 else ltP e.1 f.1
def leE (e f : Ed) : Bool := !ltE f e
def sortE (es : List Ed) : List Ed := (nub es).mergeSort leE
theorem ltP_iff (p q : Pr) : ltP p q = true ↔ p.1 < q.1 ∨ (p.1 = q.1 ∧ p.2 < q.2) := by
  unfold ltP
  simp
theorem ltP_self (p : Pr) : ltP p p = false := by
  cases h : ltP p p with
  | false => rfl
  | true =>
    rw [ltP_iff] at h
    omega
theorem lt_enc2 (e f : Ed) : PySem.W.dataLt (enc2 e) (enc2 f) = ltE e f := by
  unfold enc2 ltE
  rw [PySem.W.dataLt_pair (alike_enc _ _) (alike_enc _ _), eqv_enc, eqv_enc, lt_enc, lt_enc]
  by_cases h1 : e.1 = f.1
  · rw [if_pos (beq_iff_eq.mpr h1), if_pos (beq_iff_eq.mpr h1)]
    by_cases h2 : e.2 = f.2
    · rw [if_pos (beq_iff_eq.mpr h2), h2, ltP_self]
    · rw [if_neg (fun z => h2 (beq_iff_eq.mp z))]
  · rw [if_neg (fun z => h1 (beq_iff_eq.mp z)), if_neg (fun z => h1 (beq_iff_eq.mp z))]
theorem ltE_iff (e f : Ed) : ltE e f = true ↔ e.1.1 < f.1.1 ∨ (e.1.1 = f.1.1 ∧ (e.1.2 < f.1.2 ∨ (e.1.2 = f.1.2 ∧ (e.2.1 < f.2.1 ∨ (e.2.1 = f.2.1 ∧ e.2.2 < f.2.2))))) := by
  unfold ltE
  by_cases h1 : e.1 = f.1
  · rw [if_pos (beq_iff_eq.mpr h1), ltP_iff]
    have a := congrArg Prod.fst h1
    have b := congrArg Prod.snd h1
    omega
  · rw [if_neg (fun z => h1 (beq_iff_eq.mp z)), ltP_iff]
    have : ¬ (e.1.1 = f.1.1 ∧ e.1.2 = f.1.2) := fun z => h1 (Prod.ext z.1 z.2)
    omega
theorem leE_iff (e f : Ed) : leE e f = true ↔ ¬ ltE f e = true := by
  unfold leE
  cases ltE f e <;> simp
theorem leE_trans (a b c : Ed) (h1 : leE a b = true) (h2 : leE b c = true) : leE a c = true := by
  rw [leE_iff, ltE_iff] at h1 h2 ⊢
  omega
theorem leE_total (a b : Ed) : (leE a b || leE b a) = true := by
  rw [Bool.or_eq_true, leE_iff, leE_iff, ltE_iff, ltE_iff]
  omega
theorem leE_anti (a b : Ed) (h1 : leE a b = true) (h2 : leE b a = true) : a = b := by
  rw [leE_iff, ltE_iff] at h1 h2
  refine Prod.ext (Prod.ext ?_ ?_) (Prod.ext ?_ ?_) <;> omega
theorem sort_same {l m : List Ed} (h : l.Perm m) : l.mergeSort leE = m.mergeSort leE := by
  have p1 := List.mergeSort_perm l leE
  have p2 := List.mergeSort_perm m leE
  have s1 := List.pairwise_mergeSort leE_trans leE_total l
  have s2 := List.pairwise_mergeSort leE_trans leE_total m
  exact ((p1.trans h).trans p2.symm).eq_of_pairwise (fun a b _ _ h1 h2 => leE_anti a b h1 h2) s1 s2
def dSortSet : List Dt → Option Dt
  | [.list ds] => match edges? ds with
    | some es => if es.length ≤ 4 then some (.list ((sortE es).map enc2)) else none
    | none => none
  | _ => none
/-! the key of an edge -/
def pk (p : Pr) : NestedKey := .tup [.num p.1, .num p.2]
def ek (e : Ed) : NestedKey := .tup [pk e.1, pk e.2]
theorem pk_inj {p q : Pr} (h : pk p = pk q) : p = q := by
  unfold pk at h
  injection h with h
  injection h with h1 h2
  injection h2 with h2 _
  injection h1 with h1
  injection h2 with h2
  exact Prod.ext h1 h2
theorem ek_inj {e f : Ed} (h : ek e = ek f) : e = f := by
  unfold ek at h
  injection h with h
  injection h with h1 h2
  injection h2 with h2 _
  exact Prod.ext (pk_inj h1) (pk_inj h2)
theorem ek_num (e : Ed) : Mn.numK (ek e) = true := rfl
theorem ek_depth (e : Ed) : (ek e).depth ≤ 8 := by
  show max _ _ + 1 ≤ 8
  simp [pk, NestedKey.depth, NestedKey.depthAll]
theorem nested_pair {h : Heap} {v : Value} {p : Pr} {as : List Addr} (r : Reads h v (enc p) as) : NestedIs h (pk p) v := by
  unfold enc at r
  cases r with
  | @tuple b o vs n _ _ h1 h2 h3 h4 =>
    generalize hv : vs.toList = l at h4
    cases h4 with
    | cons r1 t1 =>
      cases t1 with
      | cons r2 t2 =>
        cases t2
        cases r1
        cases r2
        refine .tup h1 h2 h3 ?_
        rw [hv]
        exact .cons (.int _ _) (.cons (.int _ _) .nil)
theorem nested_edge {h : Heap} {v : Value} {e : Ed} {as : List Addr} (r : Reads h v (enc2 e) as) : ∃ a, v = .ref a ∧ Mn.IsN h (ek e) a := by
  unfold enc2 at r
  cases r with
  | @tuple b o vs n _ _ h1 h2 h3 h4 =>
    generalize hv : vs.toList = l at h4
    cases h4 with
    | cons r1 t1 =>
      cases t1 with
      | cons r2 t2 =>
        cases t2
        refine ⟨_, rfl, .tup h1 h2 h3 ?_, ek_num e, ek_depth e⟩
        rw [hv]
        exact .cons (nested_pair r1) (.cons (nested_pair r2) .nil)
section
variable {X : Cx} {pins : List (Addr × Obj)} {σ : L2.St} {H G : Hp} {s : Shared} {T : Tm} {st : Tn}
theorem edge_refs (I : Inv X pins σ H s) (w : Wd T st G H) : ∀ {vs : List V} {us : List Value} {es : List Ed}, DqAll G vs (es.map enc2) → Vals vs us → ∃ ks : Mn.Lx, us = ks.map (fun p => Value.ref p.1) ∧ ks.map (·.2) = es.map ek ∧ (∀ p ∈ ks, Mn.IsN s.heap p.2 p.1) ∧ ∀ p ∈ ks, ∃ e, p.2 = ek e ∧ Dq G (.ref p.1) (enc2 e)
  | _, _, [], .nil, .nil => ⟨[], rfl, rfl, fun p h => absurd h List.not_mem_nil, fun p h => absurd h List.not_mem_nil⟩
  | v :: vs, u :: us, e :: es, .cons h t, .cons r rt => by
    obtain ⟨ks, k1, k2, k3, k4⟩ := edge_refs I w t rt
    obtain ⟨as, rd⟩ := reads_of I w h r
    obtain ⟨a, ea, ha⟩ := nested_edge rd
    subst ea
    have ev : v = .ref a := by
      unfold enc2 at h
      cases h
      cases r
      rfl
    subst ev
    refine ⟨(a, ek e) :: ks, by rw [List.map_cons, ← k1], by rw [List.map_cons, List.map_cons, k2], fun p hp => ?_, fun p hp => ?_⟩
    · rcases List.mem_cons.mp hp with z | z
      · rw [z]
        exact ha
      · exact k3 p z
    · rcases List.mem_cons.mp hp with z | z
      · rw [z]
        exact ⟨e, rfl, h⟩
      · exact k4 p z
end
end Md
-- Mt7
set_option Elab.async false
set_option linter.all false
set_option maxRecDepth 100000
set_option maxHeartbeats 4000000
/-! sorted(set(l)): the walk. -/
namespace Md
open PySem PySem.Spec PyProof.Rows L2
set_option autoImplicit false
theorem perm_lift {α β : Type} {f : α → β} : ∀ {l m : List β}, l.Perm m → ∀ L : List α, l = L.map f → ∃ M, L.Perm M ∧ m = M.map f := by
  intro l m h
  induction h with
  | nil => exact fun L e => ⟨[], by cases L with | nil => exact .refl _ | cons => simp at e, rfl⟩
  | cons x _ ih =>
    intro L e
    cases L with
    | nil => simp at e
    | cons a L =>
      rw [List.map_cons] at e
      injection e with e1 e2
      obtain ⟨M, p, q⟩ := ih L e2
      exact ⟨a :: M, p.cons a, by rw [List.map_cons, ← q, e1]⟩
  | swap x y l =>
    intro L e
    match L, e with
    | a :: b :: L, e =>
      rw [List.map_cons, List.map_cons] at e
      injection e with e1 e2
      injection e2 with e2 e3
      exact ⟨b :: a :: L, .swap b a L, by rw [List.map_cons, List.map_cons, e1, e2, e3]⟩
    | [_], e => simp at e
    | [], e => simp at e
  | trans _ _ ih1 ih2 =>
    intro L e
    obtain ⟨M, p, q⟩ := ih1 L e
    obtain ⟨N, p2, q2⟩ := ih2 M q
    exact ⟨N, p.trans p2, q2⟩
theorem reads_pair_flat {h : Heap} {v : Value} {p : Pr} {as : List Addr} (r : Reads h v (enc p) as) : as = [] := by
  unfold enc at r
  cases r with
  | @tuple b o vs n _ _ h1 h2 h3 h4 =>
    generalize vs.toList = l at h4
    cases h4 with
    | cons r1 t1 =>
      cases t1 with
      | cons r2 t2 =>
        cases t2
        cases r1
        cases r2
        rfl
theorem reads_edge_flat {h : Heap} {v : Value} {e : Ed} {as : List Addr} (r : Reads h v (enc2 e) as) : as = [] := by
  unfold enc2 at r
  cases r with
  | @tuple b o vs n _ _ h1 h2 h3 h4 =>
    generalize vs.toList = l at h4
    cases h4 with
    | cons r1 t1 =>
      cases t1 with
      | cons r2 t2 =>
        cases t2
        rw [reads_pair_flat r1, reads_pair_flat r2] <;> rfl
theorem alike_enc2 (e f : Ed) : PySem.W.alike (enc2 e) (enc2 f) = true := by simp [enc2, enc, PySem.W.alike, PySem.W.alikeAll]
theorem depth_enc2 (e : Ed) : (enc2 e).depth ≤ 2 := by simp [enc2, enc, PyData.depth, PyData.depthAll]
theorem le_enc2 : PySem.W.dataLe false enc2 = leE := by
  rw [PySem.W.dataLe_eq]
  funext a b
  show (!PySem.W.dataLt (enc2 b) (enc2 a)) = leE a b
  rw [lt_enc2] <;> rfl
section
variable {P : Program} {w : World} {A : Around} {E : Value → Shared → Prop} {s : Shared}
/-- sorted of the small set; Rl: what each value stands for -/
theorem sorted_small {a : Addr} {L : Mn.Lx} {es : Array (Int × Value)} {ep : Nat} {t : SetTable} {Q : Value → Shared → Prop} {Rl : Value → Ed → Prop} (R : Mn.NS w s.heap a L es ep t) (hh : A.handled = none) (hu : A.units + 16 < cLine)
    (bsL : List Ed) (hb : L.map (·.2) = bsL.map ek) (hL : ∀ q ∈ L, ∀ b, q.2 = ek b → Rl (.ref q.1) b ∧ ∃ as, Reads s.heap (.ref q.1) (enc2 b) as)
    (hQ : ∀ s' p (out : List Value) (c : Nat), (∀ b o, s.heap.get? b = some o → s'.heap.get? b = some o) → s'.gens = s.gens → s'.os = s.os → s.heap.objs.size ≤ p → s'.heap.get? p = some (seqObj "list" out.toArray c) →
      PySem.W.EachIs Rl out (bsL.mergeSort leE) → Q (.ref p) s') :
    wpAny (model P w) A (call (.builtin "sorted") [.ref a]) Q E s := by
  obtain ⟨o, ho, hex, hd⟩ := R.ob
  have sz := R.size
  have hfew := R.few
  refine Calls.call_function_entry kind_sorted plain_sorted entry_sorted (args_sorted1 _) ?_
  unfold Builtin.«sorted»
  refine wpAny_bind (m := checkCount "sorted" 1 1 _) (wpAny_pure ?_)
  refine wpAny_bind (collect_set (A := A.in1) hh ⟨o, ho, hex.1, hd⟩ R.fits (by unfold scanBound; omega) R.tab.ris R.led fun s1 vs k1 hz g1 o1 pm => ?_)
  have hes : es.toList.map (·.2) = L.map fun q => Value.ref q.1 := by
    rw [R.rows]
    unfold Mn.rowsN
    rw [List.map_map] <;> rfl
  rw [hes] at pm
  obtain ⟨L1, pL, e1⟩ := perm_lift pm.symm L rfl
  have pk : (bsL.map ek).Perm (L1.map (·.2)) := by
    rw [← hb]
    exact pL.map _
  obtain ⟨bs, pb, eb⟩ := perm_lift pk bsL rfl
  have each : ∀ (L1 : Mn.Lx) (bs : List Ed), (∀ q ∈ L1, q ∈ L) → L1.map (·.2) = bs.map ek → PySem.W.EachIs (fun v b => Rl v b ∧ ∃ as, Reads s.heap v (enc2 b) as) (L1.map fun q => Value.ref q.1) bs := by
    intro L1
    induction L1 with
    | nil =>
      intro bs _ e
      cases bs with
      | nil => exact .nil
      | cons => simp at e
    | cons q L1 ih =>
      intro bs hs e
      cases bs with
      | nil => simp at e
      | cons b bs =>
        rw [List.map_cons, List.map_cons] at e
        injection e with e1 e2
        exact .cons (hL q (hs q List.mem_cons_self) b e1) (ih bs (fun r hr => hs r (List.mem_cons_of_mem _ hr)) e2)
  have ea := each L1 bs (fun q hq => pL.mem_iff.mpr hq) eb
  rw [← e1] at ea
  have hlen : vs.length = bs.length := ea.length
  have hbl : bs.length ≤ 4 := by rw [← hlen, pm.length_eq, List.length_map]; exact hfew
  refine wpAny_bind (wpAny_newList ?_ (by rw [sizeLine_eq]; omega))
  have hoL : (s1.heap.push (seqObj "list" vs.toArray 0)).get? s1.heap.objs.size = some (seqObj "list" vs.toArray 0) := Heap.get?_push_size _ rfl
  refine wpAny_bind (wpAny_holding (PySem.W.list_sort_data (A := A.in1) (s := { s1 with heap := s1.heap.push (seqObj "list" vs.toArray 0) }) (enc := enc2) (R := Rl) hoL (ea.mono fun _ _ x => x.1) (ea.mono fun v b x => ?_) (PySem.W.AllAlike.of alike_enc2) (PySem.W.Sortable.tuples fun b => ⟨_, _, rfl⟩) (by rw [sizeLine_eq]; omega) (fun b _ => ?_) fun out ol oe => ?_))
  · obtain ⟨as, r⟩ := x.2
    have z := reads_edge_flat r
    subst z
    exact ⟨[], Reads.keeps (fun b o e => Heap.get?_push_of_some _ (k1 b o e)) r, List.not_mem_nil⟩
  · have := depth_enc2 b
    show A.units + 1 + 1 + _ < _
    omega
  · obtain ⟨c, hc⟩ := sortedHeap_at (vs := vs) (out := out.toArray) hoL
    rw [le_enc2, ← sort_same pb] at oe
    refine wpAny_pure ⟨_, rfl, hQ _ s1.heap.objs.size out c (fun b u e => ?_) g1 o1 hz hc oe⟩
    have q := k1 b u e
    have lt := Heap.lt_size q
    show (sortedHeap (s1.heap.push (seqObj "list" vs.toArray 0)) s1.heap.objs.size vs out.toArray).get? b = some u
    rw [sortedHeap_old (Nat.ne_of_lt lt) (by rw [Heap.size_push]; exact Nat.lt_succ_of_lt lt)]
    exact Heap.get?_push_of_some _ q
end

theorem dq_out {G : Hp} : ∀ {out : List Value} {bs : List Ed}, PySem.W.EachIs (fun v b => ∃ a, v = Value.ref a ∧ Dq G (.ref a) (enc2 b)) out bs → ∃ vs : List V, Vals vs out ∧ DqAll G vs (bs.map enc2)
  | _, _, .nil => ⟨[], .nil, .nil⟩
  | _, _, .cons ⟨a, e, q⟩ t => by
    obtain ⟨vs, h1, h2⟩ := dq_out t
    subst e
    exact ⟨.ref a :: vs, .cons rfl h1, .cons q h2⟩
theorem keys_es {ks L : Mn.Lx} {es : List Ed} (hk : ks.map (·.2) = es.map ek) (g : Mn.Has ks ks.length L) (nd : (L.map (·.2)).Nodup) : ∃ bsL : List Ed, L.map (·.2) = bsL.map ek ∧ bsL.Perm (nub es) := by
  have ex : ∀ L : Mn.Lx, (∀ p ∈ L, p ∈ ks) → ∃ bsL : List Ed, L.map (·.2) = bsL.map ek := by
    intro L
    induction L with
    | nil => exact fun _ => ⟨[], rfl⟩
    | cons p L ih =>
      intro hs
      obtain ⟨bs, e⟩ := ih fun q hq => hs q (List.mem_cons_of_mem _ hq)
      have hp : p.2 ∈ es.map ek := by
        rw [← hk]
        exact List.mem_map.mpr ⟨p, hs p List.mem_cons_self, rfl⟩
      obtain ⟨b, _, eb⟩ := List.mem_map.mp hp
      exact ⟨b :: bs, by rw [List.map_cons, List.map_cons, e, eb]⟩
  obtain ⟨bs, e⟩ := ex L fun p hp => List.mem_of_mem_take (g.sub p hp)
  refine ⟨bs, e, ?_⟩
  rw [e] at nd
  have ndb : bs.Nodup := nodup_of_map nd
  refine (List.perm_ext_iff_of_nodup ndb (nub_nodup es)).mpr fun b => ?_
  rw [mem_nub]
  constructor
  · intro h
    have h1 : ek b ∈ L.map (·.2) := by
      rw [e]
      exact List.mem_map.mpr ⟨b, h, rfl⟩
    obtain ⟨p, hp, ep⟩ := List.mem_map.mp h1
    have h2 : p.2 ∈ es.map ek := by
      rw [← hk]
      exact List.mem_map.mpr ⟨p, List.mem_of_mem_take (g.sub p hp), rfl⟩
    obtain ⟨b', hb', eb'⟩ := List.mem_map.mp h2
    rw [ep] at eb'
    rwa [ek_inj eb'] at hb'
  · intro h
    have h1 : ek b ∈ ks.map (·.2) := by
      rw [hk]
      exact List.mem_map.mpr ⟨b, h, rfl⟩
    obtain ⟨p, hp, ep⟩ := List.mem_map.mp h1
    have h2 := g.all p (by rw [List.take_length]; exact hp)
    rw [ep, e] at h2
    obtain ⟨b', hb', eb'⟩ := List.mem_map.mp h2
    rwa [ek_inj eb'] at hb'
section
variable {X : Cx}
theorem se_sortSet {a : Expr} {ma : mE} {p p2 q pos : Pos} (hu : X.A.units + 64 < cLine) (hm : X.mg "sorted" = none) (hm2 : X.mg "set" = none) (ha : PA X [a] (SA (mCons ma mNil))) (hc : X.calm = true := by rfl) (hg : Gl X "sorted" := by rfl) (hg2 : Gl X "set" := by rfl)
    (na : starEach [a] X.env = (false, eval a X.env) :: starEach [] X.env := by rfl) (nb : starEach [Expr.Call (.Name "set" p2) [a] [] q] X.env = (false, eval (.Call (.Name "set" p2) [a] [] q) X.env) :: starEach [] X.env := by rfl) (bs : bootBuiltins "sorted" = some (.builtin "sorted") := by decide +kernel) :
    PE X (.Call (.Name "sorted" p) [.Call (.Name "set" p2) [a] [] q] [] pos) (SE (mF dSortSet (mCons ma mNil))) := by
  refine ⟨fun pins s σ H Q I h => ?_⟩
  have hA := ha.run q pins s σ H _ I (rF_of h)
  refine Call_ (ld_blt I hg hm bs ?_)
  refine PyProof.Rows.callWith_builtin1 (PyProof.Rows.args_cons ?_ nb) nb rfl
  refine Call_ (ld_blt I hg2 hm2 PyProof.Rows.boot_set ?_)
  refine PyProof.Rows.callWith_type1 (thn hA fun us s1 ⟨vs, H1, I1, r1, q1⟩ => ?_) na rfl
  obtain ⟨T, G, ds, z, st, wd, dv, hf, k⟩ := q1
  unfold dSortSet at hf
  split at hf
  · split at hf
    · rename_i es hes
      split at hf
      · rename_i hfew
        cases hf
        have e1 := edges_of hes
        subst e1
        obtain ⟨x, rfl, h1⟩ := dv1 dv
        obtain ⟨l, ys, rfl, hl, hx⟩ := h1.lst_
        rw [Vals.ref1 r1]
        obtain ⟨its, rv, pl, _⟩ := I1.list (SqL.of (wd.sub _ _ hl))
        obtain ⟨ks, k1, k2, k3, k4⟩ := edge_refs I1 wd hx rv
        have kl : ks.length = es.length := by
          have e := congrArg List.length k2
          rwa [List.length_map, List.length_map] at e
        refine Mn.set_small (P := X.prog) (w := X.w) ks (I1.ok.hd hc) pl.isList (by simpa using k1) k3 (by rw [kl]; exact hfew) (by omega) fun h' tk L ess ep t R g hk => ?_
        refine PyProof.Rows.args_nil ?_
        obtain ⟨bsL, b1, b2⟩ := keys_es k2 g R.nd
        have I2 : Inv X pins σ H1 { s1 with heap := h', toks := tk } := I1.kept hk
        refine sorted_small (s := { s1 with heap := h', toks := tk }) R (I1.ok.hd hc) (by omega) bsL b1 (Rl := fun v b => ∃ a, v = Value.ref a ∧ Dq G (.ref a) (enc2 b)) (fun q hq b eb => ?_) fun s' p out c k' g' o' hp hg' hout => ?_
        · obtain ⟨e, e2, e3⟩ := k4 q (List.mem_of_mem_take (g.sub q hq))
          rw [eb] at e2
          rw [← ek_inj e2] at e3
          obtain ⟨as, rd⟩ := reads_of (u := .ref q.1) I1 wd e3 rfl
          exact ⟨⟨_, rfl, e3⟩, as, Reads.keeps hk rd⟩
        · obtain ⟨ws, w1, w2⟩ := dq_out hout
          have e : s' = { s1 with heap := s'.heap, gens := s'.gens, drawn := s'.drawn, toks := s'.toks } := by
            obtain ⟨h2, g2, d2, t2, os2⟩ := s'
            have eo : os2 = s1.os := o'
            rw [eo]
          have hn : H1 p = none := I2.hok.fresh hp
          have wl : ws.length ≤ sizeLine := by
            rw [w2.length, List.length_map, (List.mergeSort_perm bsL leE).length_eq, ← List.length_map (as := bsL) (f := ek), ← b1, List.length_map, sizeLine_is]
            have := R.few
            omega
          have J :=
            I2.call (H' := upd H1 p (.lst ws)) (h' := s'.heap) (g' := s'.gens) (d' := s'.drawn) (t' := s'.toks) (ch := []) (Un.laid k' hp hn) (I2.hok.laid k' hp ⟨wl, out, c, w1, hg'⟩) (by rw [g']; exact I1.bare) (fun _ z => nomatch z)
          rw [e]
          refine ⟨V.ref p, _, J, rfl, k.new wd hn ?_⟩
          rw [sort_same b2] at w2
          exact w2
      · cases hf
    · cases hf
  · cases hf
end
end Md
-- Mb
set_option Elab.async false
set_option linter.all false
set_option maxRecDepth 100000
set_option maxHeartbeats 4000000
namespace Md
open PySem PySem.Spec PyProof.Rows L2
set_option autoImplicit false
def top (i : Nat) : Stmt := PySem.Challenge.pw_middledots_k43_whole_bent_texts.main.body.getD i (.Pass ⟨0, 0, 0, 0⟩)
abbrev s_is_number : Stmt := top 4
abbrev s_is_long : Stmt := top 5
abbrev s_is_dot : Stmt := top 7
abbrev s_is_arm : Stmt := top 8
abbrev s_is_edge : Stmt := top 9
abbrev s_turn_in : Stmt := top 10
abbrev s_arm_of_in : Stmt := top 11
abbrev s_area_in : Stmt := top 12
abbrev s_sides_of : Stmt := top 14
abbrev s_is_on : Stmt := top 15
abbrev s_touch : Stmt := top 16
abbrev s_are_corners : Stmt := top 17
abbrev s_is_field : Stmt := top 18
abbrev s_run_from : Stmt := top 25
abbrev s_line_pieces : Stmt := top 26
abbrev s_pieces : Stmt := top 27
abbrev s_is_figures : Stmt := top 28
abbrev s_number_of : Stmt := top 29
abbrev s_is_plan_told : Stmt := top 31
abbrev s_rows_of_pieces : Stmt := top 36
abbrev s_pairs_told : Stmt := top 37
abbrev s_edge_told : Stmt := top 38
abbrev s_turn_told : Stmt := top 39
abbrev s_read_sheet : Stmt := top 40
abbrev s_law_box : Stmt := top 42
abbrev s_law_take : Stmt := top 43
abbrev s_law_cells : Stmt := top 44
abbrev s_law_of : Stmt := top 45
abbrev s_law_same : Stmt := top 46
abbrev s_law_pairs_round : Stmt := top 47
abbrev s_law_grounds : Stmt := top 48
abbrev s_law_told_round : Stmt := top 49
abbrev s_law_ground : Stmt := top 50
abbrev s_law_any_brink : Stmt := top 51
abbrev s_law_any_half : Stmt := top 52
abbrev s_law_sheet : Stmt := top 53
abbrev s_law_sheet_rows : Stmt := top 54
abbrev s_law_wide_text : Stmt := top 55
abbrev s_law_heard : Stmt := top 56
abbrev s_law_faults : Stmt := top 57
abbrev s_law_table_right : Stmt := top 58
abbrev s_law_right : Stmt := top 59
abbrev s_law : Stmt := top 60
theorem b_is_number {K : PySem.W.Frag} {f : Addr} {fd : FuncData} (F : Fun K "is_number" "is_number" s_is_number f fd) : Binds K fd ["thing"] [] := F.binds fun _ _ _ _ _ _ us hl => match us, hl with | [_], _ => rfl
theorem b_is_long {K : PySem.W.Frag} {f : Addr} {fd : FuncData} (F : Fun K "is_long" "is_long" s_is_long f fd) : Binds K fd ["thing", "length"] [] := F.binds fun _ _ _ _ _ _ us hl => match us, hl with | [_, _], _ => rfl
theorem b_is_dot {K : PySem.W.Frag} {f : Addr} {fd : FuncData} (F : Fun K "is_dot" "is_dot" s_is_dot f fd) : Binds K fd ["thing"] [] := F.binds fun _ _ _ _ _ _ us hl => match us, hl with | [_], _ => rfl
theorem b_is_arm {K : PySem.W.Frag} {f : Addr} {fd : FuncData} (F : Fun K "is_arm" "is_arm" s_is_arm f fd) : Binds K fd ["thing"] [] := F.binds fun _ _ _ _ _ _ us hl => match us, hl with | [_], _ => rfl
theorem b_is_edge {K : PySem.W.Frag} {f : Addr} {fd : FuncData} (F : Fun K "is_edge" "is_edge" s_is_edge f fd) : Binds K fd ["thing"] [] := F.binds fun _ _ _ _ _ _ us hl => match us, hl with | [_], _ => rfl
theorem b_turn_in {K : PySem.W.Frag} {f : Addr} {fd : FuncData} (F : Fun K "turn_in" "turn_in" s_turn_in f fd) : Binds K fd ["one", "two", "three"] [] := F.binds fun _ _ _ _ _ _ us hl => match us, hl with | [_, _, _], _ => rfl
theorem b_arm_of_in {K : PySem.W.Frag} {f : Addr} {fd : FuncData} (F : Fun K "arm_of_in" "arm_of_in" s_arm_of_in f fd) : Binds K fd ["edge"] [] := F.binds fun _ _ _ _ _ _ us hl => match us, hl with | [_], _ => rfl
theorem b_area_in {K : PySem.W.Frag} {f : Addr} {fd : FuncData} (F : Fun K "area_in" "area_in" s_area_in f fd) : Binds K fd ["dots"] [] := F.binds fun _ _ _ _ _ _ us hl => match us, hl with | [_], _ => rfl
theorem b_sides_of {K : PySem.W.Frag} {f : Addr} {fd : FuncData} (F : Fun K "sides_of" "sides_of" s_sides_of f fd) : Binds K fd ["field"] [] := F.binds fun _ _ _ _ _ _ us hl => match us, hl with | [_], _ => rfl
theorem b_is_on {K : PySem.W.Frag} {f : Addr} {fd : FuncData} (F : Fun K "is_on" "is_on" s_is_on f fd) : Binds K fd ["one", "two", "dot"] [] := F.binds fun _ _ _ _ _ _ us hl => match us, hl with | [_, _, _], _ => rfl
theorem b_touch {K : PySem.W.Frag} {f : Addr} {fd : FuncData} (F : Fun K "touch" "touch" s_touch f fd) : Binds K fd ["near", "far"] [] := F.binds fun _ _ _ _ _ _ us hl => match us, hl with | [_, _], _ => rfl
theorem b_are_corners {K : PySem.W.Frag} {f : Addr} {fd : FuncData} (F : Fun K "are_corners" "are_corners" s_are_corners f fd) : Binds K fd ["dots"] [] := F.binds fun _ _ _ _ _ _ us hl => match us, hl with | [_], _ => rfl
theorem b_is_field {K : PySem.W.Frag} {f : Addr} {fd : FuncData} (F : Fun K "is_field" "is_field" s_is_field f fd) : Binds K fd ["thing"] [] := F.binds fun _ _ _ _ _ _ us hl => match us, hl with | [_], _ => rfl
theorem b_run_from {K : PySem.W.Frag} {f : Addr} {fd : FuncData} (F : Fun K "run_from" "run_from" s_run_from f fd) : Binds K fd ["line", "start"] [] := F.binds fun _ _ _ _ _ _ us hl => match us, hl with | [_, _], _ => rfl
theorem b_line_pieces {K : PySem.W.Frag} {f : Addr} {fd : FuncData} (F : Fun K "line_pieces" "line_pieces" s_line_pieces f fd) : Binds K fd ["line", "number"] [] := F.binds fun _ _ _ _ _ _ us hl => match us, hl with | [_, _], _ => rfl
theorem b_pieces {K : PySem.W.Frag} {f : Addr} {fd : FuncData} (F : Fun K "pieces" "pieces" s_pieces f fd) : Binds K fd ["text"] [] := F.binds fun _ _ _ _ _ _ us hl => match us, hl with | [_], _ => rfl
theorem b_is_figures {K : PySem.W.Frag} {f : Addr} {fd : FuncData} (F : Fun K "is_figures" "is_figures" s_is_figures f fd) : Binds K fd ["piece"] [] := F.binds fun _ _ _ _ _ _ us hl => match us, hl with | [_], _ => rfl
theorem b_number_of {K : PySem.W.Frag} {f : Addr} {fd : FuncData} (F : Fun K "number_of" "number_of" s_number_of f fd) : Binds K fd ["piece"] [] := F.binds fun _ _ _ _ _ _ us hl => match us, hl with | [_], _ => rfl
theorem b_is_plan_told {K : PySem.W.Frag} {f : Addr} {fd : FuncData} (F : Fun K "is_plan_told" "is_plan_told" s_is_plan_told f fd) : Binds K fd ["thing"] [] := F.binds fun _ _ _ _ _ _ us hl => match us, hl with | [_], _ => rfl
theorem b_rows_of_pieces {K : PySem.W.Frag} {f : Addr} {fd : FuncData} (F : Fun K "rows_of_pieces" "rows_of_pieces" s_rows_of_pieces f fd) : Binds K fd ["text"] [] := F.binds fun _ _ _ _ _ _ us hl => match us, hl with | [_], _ => rfl
theorem b_pairs_told {K : PySem.W.Frag} {f : Addr} {fd : FuncData} (F : Fun K "pairs_told" "pairs_told" s_pairs_told f fd) : Binds K fd ["row", "name"] [] := F.binds fun _ _ _ _ _ _ us hl => match us, hl with | [_, _], _ => rfl
theorem b_edge_told {K : PySem.W.Frag} {f : Addr} {fd : FuncData} (F : Fun K "edge_told" "edge_told" s_edge_told f fd) : Binds K fd ["row", "edges"] [] := F.binds fun _ _ _ _ _ _ us hl => match us, hl with | [_, _], _ => rfl
theorem b_turn_told {K : PySem.W.Frag} {f : Addr} {fd : FuncData} (F : Fun K "turn_told" "turn_told" s_turn_told f fd) : Binds K fd ["row"] [] := F.binds fun _ _ _ _ _ _ us hl => match us, hl with | [_], _ => rfl
theorem b_read_sheet {K : PySem.W.Frag} {f : Addr} {fd : FuncData} (F : Fun K "read_sheet" "read_sheet" s_read_sheet f fd) : Binds K fd ["text"] [] := F.binds fun _ _ _ _ _ _ us hl => match us, hl with | [_], _ => rfl
theorem b_law_box {K : PySem.W.Frag} {f : Addr} {fd : FuncData} (F : Fun K "_law_box" "_law_box" s_law_box f fd) : Binds K fd ["_law_script", "_law_k"] [] := F.binds fun _ _ _ _ _ _ us hl => match us, hl with | [_, _], _ => rfl
theorem b_law_take {K : PySem.W.Frag} {f : Addr} {fd : FuncData} (F : Fun K "_law_take" "_law_take" s_law_take f fd) : Binds K fd ["_law_tin", "_law_below_so"] [] := F.binds fun _ _ _ _ _ _ us hl => match us, hl with | [_, _], _ => rfl
theorem b_law_cells {K : PySem.W.Frag} {f : Addr} {fd : FuncData} (F : Fun K "_law_cells" "_law_cells" s_law_cells f fd) : Binds K fd ["_law_script", "_law_most_so"] [] := F.binds fun _ _ _ _ _ _ us hl => match us, hl with | [_, _], _ => rfl
theorem b_law_of {K : PySem.W.Frag} {f : Addr} {fd : FuncData} (F : Fun K "_law_of" "_law_of" s_law_of f fd) : Binds K fd ["_law_tin", "_law_goods_so"] [] := F.binds fun _ _ _ _ _ _ us hl => match us, hl with | [_, _], _ => rfl
theorem b_law_same {K : PySem.W.Frag} {f : Addr} {fd : FuncData} (F : Fun K "_law_same" "_law_same" s_law_same f fd) : Binds K fd ["_law_got", "_law_due"] [] := F.binds fun _ _ _ _ _ _ us hl => match us, hl with | [_, _], _ => rfl
theorem b_law_pairs_round {K : PySem.W.Frag} {f : Addr} {fd : FuncData} (F : Fun K "_law_pairs_round" "_law_pairs_round" s_law_pairs_round f fd) : Binds K fd ["_law_row_so"] [] := F.binds fun _ _ _ _ _ _ us hl => match us, hl with | [_], _ => rfl
theorem b_law_grounds {K : PySem.W.Frag} {f : Addr} {fd : FuncData} (F : Fun K "_law_grounds" "_law_grounds" s_law_grounds f fd) : Binds K fd [] [] := F.binds fun _ _ _ _ _ _ us hl => match us, hl with | [], _ => rfl
theorem b_law_told_round {K : PySem.W.Frag} {f : Addr} {fd : FuncData} (F : Fun K "_law_told_round" "_law_told_round" s_law_told_round f fd) : Binds K fd ["_law_row_so"] [] := F.binds fun _ _ _ _ _ _ us hl => match us, hl with | [_], _ => rfl
theorem b_law_ground {K : PySem.W.Frag} {f : Addr} {fd : FuncData} (F : Fun K "_law_ground" "_law_ground" s_law_ground f fd) : Binds K fd ["_law_tin"] [] := F.binds fun _ _ _ _ _ _ us hl => match us, hl with | [_], _ => rfl
theorem b_law_any_brink {K : PySem.W.Frag} {f : Addr} {fd : FuncData} (F : Fun K "_law_any_brink" "_law_any_brink" s_law_any_brink f fd) : Binds K fd ["_law_tin"] [] := F.binds fun _ _ _ _ _ _ us hl => match us, hl with | [_], _ => rfl
theorem b_law_any_half {K : PySem.W.Frag} {f : Addr} {fd : FuncData} (F : Fun K "_law_any_half" "_law_any_half" s_law_any_half f fd) : Binds K fd ["_law_tin"] [] := F.binds fun _ _ _ _ _ _ us hl => match us, hl with | [_], _ => rfl
theorem b_law_sheet {K : PySem.W.Frag} {f : Addr} {fd : FuncData} (F : Fun K "_law_sheet" "_law_sheet" s_law_sheet f fd) : Binds K fd ["_law_tin"] [] := F.binds fun _ _ _ _ _ _ us hl => match us, hl with | [_], _ => rfl
theorem b_law_sheet_rows {K : PySem.W.Frag} {f : Addr} {fd : FuncData} (F : Fun K "_law_sheet_rows" "_law_sheet_rows" s_law_sheet_rows f fd) : Binds K fd ["_law_sheet_so"] [] := F.binds fun _ _ _ _ _ _ us hl => match us, hl with | [_], _ => rfl
theorem b_law_wide_text {K : PySem.W.Frag} {f : Addr} {fd : FuncData} (F : Fun K "_law_wide_text" "_law_wide_text" s_law_wide_text f fd) : Binds K fd ["_law_tin", "_law_rows_so"] [] := F.binds fun _ _ _ _ _ _ us hl => match us, hl with | [_, _], _ => rfl
theorem b_law_heard {K : PySem.W.Frag} {f : Addr} {fd : FuncData} (F : Fun K "_law_heard" "_law_heard" s_law_heard f fd) : Binds K fd ["_law_text_so"] [] := F.binds fun _ _ _ _ _ _ us hl => match us, hl with | [_], _ => rfl
theorem b_law_faults {K : PySem.W.Frag} {f : Addr} {fd : FuncData} (F : Fun K "_law_faults" "_law_faults" s_law_faults f fd) : Binds K fd [] [] := F.binds fun _ _ _ _ _ _ us hl => match us, hl with | [], _ => rfl
theorem b_law_table_right {K : PySem.W.Frag} {f : Addr} {fd : FuncData} (F : Fun K "_law_table_right" "_law_table_right" s_law_table_right f fd) : Binds K fd ["_law_tin"] [] := F.binds fun _ _ _ _ _ _ us hl => match us, hl with | [_], _ => rfl
theorem b_law_right {K : PySem.W.Frag} {f : Addr} {fd : FuncData} (F : Fun K "_law_right" "_law_right" s_law_right f fd) : Binds K fd ["_law_tin"] [] := F.binds fun _ _ _ _ _ _ us hl => match us, hl with | [_], _ => rfl
theorem b_law {K : PySem.W.Frag} {f : Addr} {fd : FuncData} (F : Fun K "law" "law" s_law f fd) : Binds K fd ["_law_script"] [] := F.binds fun _ _ _ _ _ _ us hl => match us, hl with | [_], _ => rfl
theorem bt_len : bootBuiltins "len" = some (.builtin "len") := by decide +kernel
theorem bt_min : bootBuiltins "min" = some (.builtin "min") := by decide +kernel
theorem bt_max : bootBuiltins "max" = some (.builtin "max") := by decide +kernel
theorem bt_sum : bootBuiltins "sum" = some (.builtin "sum") := by decide +kernel
theorem bt_any : bootBuiltins "any" = some (.builtin "any") := by decide +kernel
theorem bt_all : bootBuiltins "all" = some (.builtin "all") := by decide +kernel
theorem bt_int : bootBuiltins "int" = some (.type "int") := by decide +kernel
theorem bt_bool : bootBuiltins "bool" = some (.type "bool") := by decide +kernel
theorem bt_str : bootBuiltins "str" = some (.type "str") := by decide +kernel
theorem bt_list : bootBuiltins "list" = some (.type "list") := by decide +kernel
theorem bt_tuple : bootBuiltins "tuple" = some (.type "tuple") := by decide +kernel
theorem bt_set : bootBuiltins "set" = some (.type "set") := by decide +kernel
theorem bt_sorted : bootBuiltins "sorted" = some (.builtin "sorted") := by decide +kernel
theorem bt_range : bootBuiltins "range" = some (.type "range") := by decide +kernel
theorem bt_enumerate : bootBuiltins "enumerate" = some (.type "enumerate") := by decide +kernel
theorem bt_zip : bootBuiltins "zip" = some (.type "zip") := by decide +kernel
theorem bt_isinstance : bootBuiltins "isinstance" = some (.builtin "isinstance") := by decide +kernel
theorem bt_abs : bootBuiltins "abs" = some (.builtin "abs") := by decide +kernel
/-- what the top has left -/
structure Tx (K : PySem.W.Frag) (mg : Str → Option Value) where
  n_len : mg "len" = none
  n_min : mg "min" = none
  n_max : mg "max" = none
  n_sum : mg "sum" = none
  n_any : mg "any" = none
  n_all : mg "all" = none
  n_int : mg "int" = none
  n_bool : mg "bool" = none
  n_str : mg "str" = none
  n_list : mg "list" = none
  n_tuple : mg "tuple" = none
  n_set : mg "set" = none
  n_sorted : mg "sorted" = none
  n_range : mg "range" = none
  n_enumerate : mg "enumerate" = none
  n_zip : mg "zip" = none
  n_isinstance : mg "isinstance" = none
  n_abs : mg "abs" = none
  n_gcd : mg "gcd" = some (.builtin "math.gcd")
  t_FIGURES : Tok
  k_FIGURES : mg "FIGURES" = some (.str ("0123456789" : Str) t_FIGURES)
  t_SIGNS : Tok
  k_SIGNS : mg "SIGNS" = some (.str ("abcdefghijklmnopqrstuvwxyz0123456789-" : Str) t_SIGNS)
  t_LONGEST : Tok
  k_LONGEST : mg "LONGEST" = some (.int 12 t_LONGEST)
  t_BELOW : Tok
  k_BELOW : mg "BELOW" = some (.str ("-" : Str) t_BELOW)
  t_REMARK : Tok
  k_REMARK : mg "REMARK" = some (.str ("#" : Str) t_REMARK)
  t_FIELD : Tok
  k_FIELD : mg "FIELD" = some (.str ("field" : Str) t_FIELD)
  t_EDGE : Tok
  k_EDGE : mg "EDGE" = some (.str ("edge" : Str) t_EDGE)
  t_TURN : Tok
  k_TURN : mg "TURN" = some (.str ("turn" : Str) t_TURN)
  a_is_number : Addr
  d_is_number : FuncData
  g_is_number : mg "is_number" = some (.ref a_is_number)
  F_is_number : Fun K "is_number" "is_number" s_is_number a_is_number d_is_number
  a_is_long : Addr
  d_is_long : FuncData
  g_is_long : mg "is_long" = some (.ref a_is_long)
  F_is_long : Fun K "is_long" "is_long" s_is_long a_is_long d_is_long
  a_is_dot : Addr
  d_is_dot : FuncData
  g_is_dot : mg "is_dot" = some (.ref a_is_dot)
  F_is_dot : Fun K "is_dot" "is_dot" s_is_dot a_is_dot d_is_dot
  a_is_arm : Addr
  d_is_arm : FuncData
  g_is_arm : mg "is_arm" = some (.ref a_is_arm)
  F_is_arm : Fun K "is_arm" "is_arm" s_is_arm a_is_arm d_is_arm
  a_is_edge : Addr
  d_is_edge : FuncData
  g_is_edge : mg "is_edge" = some (.ref a_is_edge)
  F_is_edge : Fun K "is_edge" "is_edge" s_is_edge a_is_edge d_is_edge
  a_turn_in : Addr
  d_turn_in : FuncData
  g_turn_in : mg "turn_in" = some (.ref a_turn_in)
  F_turn_in : Fun K "turn_in" "turn_in" s_turn_in a_turn_in d_turn_in
  a_arm_of_in : Addr
  d_arm_of_in : FuncData
  g_arm_of_in : mg "arm_of_in" = some (.ref a_arm_of_in)
  F_arm_of_in : Fun K "arm_of_in" "arm_of_in" s_arm_of_in a_arm_of_in d_arm_of_in
  a_area_in : Addr
  d_area_in : FuncData
  g_area_in : mg "area_in" = some (.ref a_area_in)
  F_area_in : Fun K "area_in" "area_in" s_area_in a_area_in d_area_in
  a_sides_of : Addr
  d_sides_of : FuncData
  g_sides_of : mg "sides_of" = some (.ref a_sides_of)
  F_sides_of : Fun K "sides_of" "sides_of" s_sides_of a_sides_of d_sides_of
  a_is_on : Addr
  d_is_on : FuncData
  g_is_on : mg "is_on" = some (.ref a_is_on)
  F_is_on : Fun K "is_on" "is_on" s_is_on a_is_on d_is_on
  a_touch : Addr
  d_touch : FuncData
  g_touch : mg "touch" = some (.ref a_touch)
  F_touch : Fun K "touch" "touch" s_touch a_touch d_touch
  a_are_corners : Addr
  d_are_corners : FuncData
  g_are_corners : mg "are_corners" = some (.ref a_are_corners)
  F_are_corners : Fun K "are_corners" "are_corners" s_are_corners a_are_corners d_are_corners
  a_is_field : Addr
  d_is_field : FuncData
  g_is_field : mg "is_field" = some (.ref a_is_field)
  F_is_field : Fun K "is_field" "is_field" s_is_field a_is_field d_is_field
  a_run_from : Addr
  d_run_from : FuncData
  g_run_from : mg "run_from" = some (.ref a_run_from)
  F_run_from : Fun K "run_from" "run_from" s_run_from a_run_from d_run_from
  a_line_pieces : Addr
  d_line_pieces : FuncData
  g_line_pieces : mg "line_pieces" = some (.ref a_line_pieces)
  F_line_pieces : Fun K "line_pieces" "line_pieces" s_line_pieces a_line_pieces d_line_pieces
  a_pieces : Addr
  d_pieces : FuncData
  g_pieces : mg "pieces" = some (.ref a_pieces)
  F_pieces : Fun K "pieces" "pieces" s_pieces a_pieces d_pieces
  a_is_figures : Addr
  d_is_figures : FuncData
  g_is_figures : mg "is_figures" = some (.ref a_is_figures)
  F_is_figures : Fun K "is_figures" "is_figures" s_is_figures a_is_figures d_is_figures
  a_number_of : Addr
  d_number_of : FuncData
  g_number_of : mg "number_of" = some (.ref a_number_of)
  F_number_of : Fun K "number_of" "number_of" s_number_of a_number_of d_number_of
  a_is_plan_told : Addr
  d_is_plan_told : FuncData
  g_is_plan_told : mg "is_plan_told" = some (.ref a_is_plan_told)
  F_is_plan_told : Fun K "is_plan_told" "is_plan_told" s_is_plan_told a_is_plan_told d_is_plan_told
  a_rows_of_pieces : Addr
  d_rows_of_pieces : FuncData
  g_rows_of_pieces : mg "rows_of_pieces" = some (.ref a_rows_of_pieces)
  F_rows_of_pieces : Fun K "rows_of_pieces" "rows_of_pieces" s_rows_of_pieces a_rows_of_pieces d_rows_of_pieces
  a_pairs_told : Addr
  d_pairs_told : FuncData
  g_pairs_told : mg "pairs_told" = some (.ref a_pairs_told)
  F_pairs_told : Fun K "pairs_told" "pairs_told" s_pairs_told a_pairs_told d_pairs_told
  a_edge_told : Addr
  d_edge_told : FuncData
  g_edge_told : mg "edge_told" = some (.ref a_edge_told)
  F_edge_told : Fun K "edge_told" "edge_told" s_edge_told a_edge_told d_edge_told
  a_turn_told : Addr
  d_turn_told : FuncData
  g_turn_told : mg "turn_told" = some (.ref a_turn_told)
  F_turn_told : Fun K "turn_told" "turn_told" s_turn_told a_turn_told d_turn_told
  a_read_sheet : Addr
  d_read_sheet : FuncData
  g_read_sheet : mg "read_sheet" = some (.ref a_read_sheet)
  F_read_sheet : Fun K "read_sheet" "read_sheet" s_read_sheet a_read_sheet d_read_sheet
  a_law_box : Addr
  d_law_box : FuncData
  g_law_box : mg "_law_box" = some (.ref a_law_box)
  F_law_box : Fun K "_law_box" "_law_box" s_law_box a_law_box d_law_box
  a_law_take : Addr
  d_law_take : FuncData
  g_law_take : mg "_law_take" = some (.ref a_law_take)
  F_law_take : Fun K "_law_take" "_law_take" s_law_take a_law_take d_law_take
  a_law_cells : Addr
  d_law_cells : FuncData
  g_law_cells : mg "_law_cells" = some (.ref a_law_cells)
  F_law_cells : Fun K "_law_cells" "_law_cells" s_law_cells a_law_cells d_law_cells
  a_law_of : Addr
  d_law_of : FuncData
  g_law_of : mg "_law_of" = some (.ref a_law_of)
  F_law_of : Fun K "_law_of" "_law_of" s_law_of a_law_of d_law_of
  a_law_same : Addr
  d_law_same : FuncData
  g_law_same : mg "_law_same" = some (.ref a_law_same)
  F_law_same : Fun K "_law_same" "_law_same" s_law_same a_law_same d_law_same
  a_law_pairs_round : Addr
  d_law_pairs_round : FuncData
  g_law_pairs_round : mg "_law_pairs_round" = some (.ref a_law_pairs_round)
  F_law_pairs_round : Fun K "_law_pairs_round" "_law_pairs_round" s_law_pairs_round a_law_pairs_round d_law_pairs_round
  a_law_grounds : Addr
  d_law_grounds : FuncData
  g_law_grounds : mg "_law_grounds" = some (.ref a_law_grounds)
  F_law_grounds : Fun K "_law_grounds" "_law_grounds" s_law_grounds a_law_grounds d_law_grounds
  a_law_told_round : Addr
  d_law_told_round : FuncData
  g_law_told_round : mg "_law_told_round" = some (.ref a_law_told_round)
  F_law_told_round : Fun K "_law_told_round" "_law_told_round" s_law_told_round a_law_told_round d_law_told_round
  a_law_ground : Addr
  d_law_ground : FuncData
  g_law_ground : mg "_law_ground" = some (.ref a_law_ground)
  F_law_ground : Fun K "_law_ground" "_law_ground" s_law_ground a_law_ground d_law_ground
  a_law_any_brink : Addr
  d_law_any_brink : FuncData
  g_law_any_brink : mg "_law_any_brink" = some (.ref a_law_any_brink)
  F_law_any_brink : Fun K "_law_any_brink" "_law_any_brink" s_law_any_brink a_law_any_brink d_law_any_brink
  a_law_any_half : Addr
  d_law_any_half : FuncData
  g_law_any_half : mg "_law_any_half" = some (.ref a_law_any_half)
  F_law_any_half : Fun K "_law_any_half" "_law_any_half" s_law_any_half a_law_any_half d_law_any_half
  a_law_sheet : Addr
  d_law_sheet : FuncData
  g_law_sheet : mg "_law_sheet" = some (.ref a_law_sheet)
  F_law_sheet : Fun K "_law_sheet" "_law_sheet" s_law_sheet a_law_sheet d_law_sheet
  a_law_sheet_rows : Addr
  d_law_sheet_rows : FuncData
  g_law_sheet_rows : mg "_law_sheet_rows" = some (.ref a_law_sheet_rows)
  F_law_sheet_rows : Fun K "_law_sheet_rows" "_law_sheet_rows" s_law_sheet_rows a_law_sheet_rows d_law_sheet_rows
  a_law_wide_text : Addr
  d_law_wide_text : FuncData
  g_law_wide_text : mg "_law_wide_text" = some (.ref a_law_wide_text)
  F_law_wide_text : Fun K "_law_wide_text" "_law_wide_text" s_law_wide_text a_law_wide_text d_law_wide_text
  a_law_heard : Addr
  d_law_heard : FuncData
  g_law_heard : mg "_law_heard" = some (.ref a_law_heard)
  F_law_heard : Fun K "_law_heard" "_law_heard" s_law_heard a_law_heard d_law_heard
  a_law_faults : Addr
  d_law_faults : FuncData
  g_law_faults : mg "_law_faults" = some (.ref a_law_faults)
  F_law_faults : Fun K "_law_faults" "_law_faults" s_law_faults a_law_faults d_law_faults
  a_law_table_right : Addr
  d_law_table_right : FuncData
  g_law_table_right : mg "_law_table_right" = some (.ref a_law_table_right)
  F_law_table_right : Fun K "_law_table_right" "_law_table_right" s_law_table_right a_law_table_right d_law_table_right
  a_law_right : Addr
  d_law_right : FuncData
  g_law_right : mg "_law_right" = some (.ref a_law_right)
  F_law_right : Fun K "_law_right" "_law_right" s_law_right a_law_right d_law_right
  a_law : Addr
  d_law : FuncData
  g_law : mg "law" = some (.ref a_law)
  F_law : Fun K "law" "law" s_law a_law d_law
end Md
-- Me1
set_option Elab.async false
set_option linter.all false
set_option maxRecDepth 100000
set_option maxHeartbeats 4000000
namespace Md
open PySem PySem.Spec PyProof.Rows L2
set_option autoImplicit false
section
variable {P : Program} {w : World} {K : PySem.W.Frag} {mg : Str → Option Value} {base : Heap}
/-! is_number: slots thing; level 1 -/
abbrev N_is_number : List Str := ["thing"]
theorem sc_is_number : FnScope N_is_number ["thing"] (defScope s_is_number) := ⟨rfl, rfl, rfl, by decide +kernel, rfl, by decide +kernel, by decide +kernel⟩
abbrev c_is_number : mS := (mRet (mVand (m1 dIsInt (mVar 0)) (m1 dNot (m1 dIsBool (mVar 0)))))
def m_is_number : Mf := mFn 1 1 c_is_number
theorem len_is_number {ds : List Dt} {s : Tn} {r : Dt × Tn} (h : m_is_number ds s = some r) : ds.length = 1 := mFn_len h
theorem ok_is_number (T : Tx K mg) : FnOk P w K mg base CX0 1 T.a_is_number T.d_is_number ["thing"] (spM 1 m_is_number) := fn_sim T.F_is_number sc_is_number fun cdv A outer s H E hr => by
  exact (sss_one (ss_ret (sv_and (se_isi isi_int (sv 0) T.n_isinstance T.n_int bt_int) (sv_one (sv_not (se_isi isi_bool (sv 0) T.n_isinstance T.n_bool bt_bool))))))
/-! is_long: slots thing length; level 1 -/
abbrev N_is_long : List Str := ["thing", "length"]
theorem sc_is_long : FnScope N_is_long ["thing", "length"] (defScope s_is_long) := ⟨rfl, rfl, rfl, by decide +kernel, rfl, by decide +kernel, by decide +kernel⟩
abbrev c_is_long : mS := (mRet (mVand (m1 dIsTup (mVar 0)) (m2 dEq (mF dLen (mCons (mVar 0) mNil)) (mVar 1))))
def m_is_long : Mf := mFn 2 2 c_is_long
theorem len_is_long {ds : List Dt} {s : Tn} {r : Dt × Tn} (h : m_is_long ds s = some r) : ds.length = 2 := mFn_len h
theorem ok_is_long (T : Tx K mg) : FnOk P w K mg base CX0 1 T.a_is_long T.d_is_long ["thing", "length"] (spM 2 m_is_long) := fn_sim T.F_is_long sc_is_long fun cdv A outer s H E hr => by
  exact (sss_one (ss_ret (sv_and (se_isi isi_tup (sv 0) T.n_isinstance T.n_tuple bt_tuple) (sv_one (se_cmp (op_eqQ hr.units) (se_callB cr_len T.n_len bt_len (sa_cons (sv 0) sa_nil)) (sv 1))))))
/-! is_dot: slots thing; level 2 -/
abbrev N_is_dot : List Str := ["thing"]
theorem sc_is_dot : FnScope N_is_dot ["thing"] (defScope s_is_dot) := ⟨rfl, rfl, rfl, by decide +kernel, rfl, by decide +kernel, by decide +kernel⟩
abbrev c_is_dot : mS := (mRet (mVand (mCall m_is_long (mCons (mVar 0) (mCons (mC (.int 2)) mNil))) (mVand (mCall m_is_number (mCons (m2 dIx (mVar 0) (mC (.int 0))) mNil)) (mCall m_is_number (mCons (m2 dIx (mVar 0) (mC (.int 1))) mNil)))))
def m_is_dot : Mf := mFn 1 1 c_is_dot
theorem len_is_dot {ds : List Dt} {s : Tn} {r : Dt × Tn} (h : m_is_dot ds s = some r) : ds.length = 1 := mFn_len h
theorem ok_is_dot (T : Tx K mg) : FnOk P w K mg base CX0 2 T.a_is_dot T.d_is_dot ["thing"] (spM 1 m_is_dot) := fn_sim T.F_is_dot sc_is_dot fun cdv A outer s H E hr => by
  exact (sss_one (ss_ret (sv_and (se_call (ok_is_long T) (hr.mono (by decide)) T.g_is_long T.F_is_long.kp (b_is_long T.F_is_long) pass0 (fun _ _ _ h => len_is_long h) (sa_cons (sv 0) (sa_cons se_int sa_nil))) (sv_and (se_call (ok_is_number T) (hr.mono (by decide)) T.g_is_number T.F_is_number.kp (b_is_number T.F_is_number) pass0 (fun _ _ _ h => len_is_number h) (sa_cons (se_ix ix_D (sv 0) se_int) sa_nil)) (sv_one (se_call (ok_is_number T) (hr.mono (by decide)) T.g_is_number T.F_is_number.kp (b_is_number T.F_is_number) pass0 (fun _ _ _ h => len_is_number h) (sa_cons (se_ix ix_D (sv 0) se_int) sa_nil)))))))
/-! turn_in: slots one two three; level 1 -/
abbrev N_turn_in : List Str := ["one", "two", "three"]
theorem sc_turn_in : FnScope N_turn_in ["one", "two", "three"] (defScope s_turn_in) := ⟨rfl, rfl, rfl, by decide +kernel, rfl, by decide +kernel, by decide +kernel⟩
abbrev c_turn_in : mS := (mRet (m2 dSub (m2 dMul (m2 dSub (m2 dIx (mVar 1) (mC (.int 0))) (m2 dIx (mVar 0) (mC (.int 0)))) (m2 dSub (m2 dIx (mVar 2) (mC (.int 1))) (m2 dIx (mVar 0) (mC (.int 1))))) (m2 dMul (m2 dSub (m2 dIx (mVar 1) (mC (.int 1))) (m2 dIx (mVar 0) (mC (.int 1)))) (m2 dSub (m2 dIx (mVar 2) (mC (.int 0))) (m2 dIx (mVar 0) (mC (.int 0)))))))
def m_turn_in : Mf := mFn 3 3 c_turn_in
theorem len_turn_in {ds : List Dt} {s : Tn} {r : Dt × Tn} (h : m_turn_in ds s = some r) : ds.length = 3 := mFn_len h
theorem ok_turn_in (T : Tx K mg) : FnOk P w K mg base CX0 1 T.a_turn_in T.d_turn_in ["one", "two", "three"] (spM 3 m_turn_in) := fn_sim T.F_turn_in sc_turn_in fun cdv A outer s H E hr => by
  exact (sss_one (ss_ret (se_op op_subD (se_op op_mulD (se_op op_subD (se_ix ix_D (sv 1) se_int) (se_ix ix_D (sv 0) se_int)) (se_op op_subD (se_ix ix_D (sv 2) se_int) (se_ix ix_D (sv 0) se_int))) (se_op op_mulD (se_op op_subD (se_ix ix_D (sv 1) se_int) (se_ix ix_D (sv 0) se_int)) (se_op op_subD (se_ix ix_D (sv 2) se_int) (se_ix ix_D (sv 0) se_int))))))
/-! arm_of_in: slots edge; level 1 -/
abbrev N_arm_of_in : List Str := ["edge"]
theorem sc_arm_of_in : FnScope N_arm_of_in ["edge"] (defScope s_arm_of_in) := ⟨rfl, rfl, rfl, by decide +kernel, rfl, by decide +kernel, by decide +kernel⟩
abbrev c_arm_of_in : mS := (mRet (mF dTup (mCons (m2 dSub (m2 dIx (m2 dIx (mVar 0) (mC (.int 1))) (mC (.int 0))) (m2 dIx (m2 dIx (mVar 0) (mC (.int 0))) (mC (.int 0)))) (mCons (m2 dSub (m2 dIx (m2 dIx (mVar 0) (mC (.int 1))) (mC (.int 1))) (m2 dIx (m2 dIx (mVar 0) (mC (.int 0))) (mC (.int 1)))) mNil))))
def m_arm_of_in : Mf := mFn 1 1 c_arm_of_in
theorem len_arm_of_in {ds : List Dt} {s : Tn} {r : Dt × Tn} (h : m_arm_of_in ds s = some r) : ds.length = 1 := mFn_len h
theorem ok_arm_of_in (T : Tx K mg) : FnOk P w K mg base CX0 1 T.a_arm_of_in T.d_arm_of_in ["edge"] (spM 1 m_arm_of_in) := fn_sim T.F_arm_of_in sc_arm_of_in fun cdv A outer s H E hr => by
  exact (sss_one (ss_ret (se_tup (sa_cons (se_op op_subD (se_ix ix_D (se_ix ix_D (sv 0) se_int) se_int) (se_ix ix_D (se_ix ix_D (sv 0) se_int) se_int)) (sa_cons (se_op op_subD (se_ix ix_D (se_ix ix_D (sv 0) se_int) se_int) (se_ix ix_D (se_ix ix_D (sv 0) se_int) se_int)) sa_nil)))))
/-! is_arm: slots thing; level 3 -/
abbrev N_is_arm : List Str := ["thing"]
theorem sc_is_arm : FnScope N_is_arm ["thing"] (defScope s_is_arm) := ⟨rfl, rfl, rfl, by decide +kernel, rfl, by decide +kernel, by decide +kernel⟩
abbrev c_is_arm : mS := (mSeq (mIfS (mBor (mBnot (mT (mCall m_is_dot (mCons (mVar 0) mNil)))) (mT (m2 dNe (mF dGcd (mCons (m2 dIx (mVar 0) (mC (.int 0))) (mCons (m2 dIx (mVar 0) (mC (.int 1))) mNil))) (mC (.int 1))))) (mRet (mC (.bool false))) mNext) (mRet (mVor (m2 dGt (m2 dIx (mVar 0) (mC (.int 0))) (mC (.int 0))) (m2 dEq (mVar 0) (mF dTup (mCons (mC (.int 0)) (mCons (mC (.int 1)) mNil)))))))
def m_is_arm : Mf := mFn 1 1 c_is_arm
theorem len_is_arm {ds : List Dt} {s : Tn} {r : Dt × Tn} (h : m_is_arm ds s = some r) : ds.length = 1 := mFn_len h
theorem ok_is_arm (T : Tx K mg) : FnOk P w K mg base CX0 3 T.a_is_arm T.d_is_arm ["thing"] (spM 1 m_is_arm) := fn_sim T.F_is_arm sc_is_arm fun cdv A outer s H E hr => by
  exact (sss_cons (ss_if (st_w (sw_or (st_not (st_val (se_call (ok_is_dot T) (hr.mono (by decide)) T.g_is_dot T.F_is_dot.kp (b_is_dot T.F_is_dot) pass0 (fun _ _ _ h => len_is_dot h) (sa_cons (sv 0) sa_nil)))) (sw_oneO (st_cmp (op_neQ hr.units) (se_callF cr_gcdD T.n_gcd (sa_cons (se_ix ix_D (sv 0) se_int) (sa_cons (se_ix ix_D (sv 0) se_int) sa_nil))) se_int)))) (sss_one (ss_ret se_bl)) sss_nil) (sss_one (ss_ret (sv_or (se_cmp op_gtD (se_ix ix_D (sv 0) se_int) se_int) (sv_one (se_cmp (op_eqQ hr.units) (sv 0) (se_tup (sa_cons se_int (sa_cons se_int sa_nil)))))))))
/-! is_edge: slots thing; level 4 -/
abbrev N_is_edge : List Str := ["thing"]
theorem sc_is_edge : FnScope N_is_edge ["thing"] (defScope s_is_edge) := ⟨rfl, rfl, rfl, by decide +kernel, rfl, by decide +kernel, by decide +kernel⟩
abbrev c_is_edge : mS := (mSeq (mIfS (mBor (mBnot (mT (mCall m_is_long (mCons (mVar 0) (mCons (mC (.int 2)) mNil))))) (mBor (mBnot (mT (mCall m_is_dot (mCons (m2 dIx (mVar 0) (mC (.int 0))) mNil)))) (mBnot (mT (mCall m_is_dot (mCons (m2 dIx (mVar 0) (mC (.int 1))) mNil)))))) (mRet (mC (.bool false))) mNext) (mRet (mCall m_is_arm (mCons (mCall m_arm_of_in (mCons (mVar 0) mNil)) mNil))))
def m_is_edge : Mf := mFn 1 1 c_is_edge
theorem len_is_edge {ds : List Dt} {s : Tn} {r : Dt × Tn} (h : m_is_edge ds s = some r) : ds.length = 1 := mFn_len h
theorem ok_is_edge (T : Tx K mg) : FnOk P w K mg base CX0 4 T.a_is_edge T.d_is_edge ["thing"] (spM 1 m_is_edge) := fn_sim T.F_is_edge sc_is_edge fun cdv A outer s H E hr => by
  exact (sss_cons (ss_if (st_w (sw_or (st_not (st_val (se_call (ok_is_long T) (hr.mono (by decide)) T.g_is_long T.F_is_long.kp (b_is_long T.F_is_long) pass0 (fun _ _ _ h => len_is_long h) (sa_cons (sv 0) (sa_cons se_int sa_nil))))) (sw_or (st_not (st_val (se_call (ok_is_dot T) (hr.mono (by decide)) T.g_is_dot T.F_is_dot.kp (b_is_dot T.F_is_dot) pass0 (fun _ _ _ h => len_is_dot h) (sa_cons (se_ix ix_D (sv 0) se_int) sa_nil)))) (sw_oneO (st_not (st_val (se_call (ok_is_dot T) (hr.mono (by decide)) T.g_is_dot T.F_is_dot.kp (b_is_dot T.F_is_dot) pass0 (fun _ _ _ h => len_is_dot h) (sa_cons (se_ix ix_D (sv 0) se_int) sa_nil)))))))) (sss_one (ss_ret se_bl)) sss_nil) (sss_one (ss_ret (se_call (ok_is_arm T) (hr.mono (by decide)) T.g_is_arm T.F_is_arm.kp (b_is_arm T.F_is_arm) pass0 (fun _ _ _ h => len_is_arm h) (sa_cons (se_call (ok_arm_of_in T) (hr.mono (by decide)) T.g_arm_of_in T.F_arm_of_in.kp (b_arm_of_in T.F_arm_of_in) pass0 (fun _ _ _ h => len_arm_of_in h) (sa_cons (sv 0) sa_nil)) sa_nil)))))
/-! is_on: slots one two dot; level 2 -/
abbrev N_is_on : List Str := ["one", "two", "dot"]
theorem sc_is_on : FnScope N_is_on ["one", "two", "dot"] (defScope s_is_on) := ⟨rfl, rfl, rfl, by decide +kernel, rfl, by decide +kernel, by decide +kernel⟩
abbrev c_is_on : mS := (mSeq (mIfS (mBor (mT (m2 dNe (mCall m_turn_in (mCons (mVar 0) (mCons (mVar 1) (mCons (mVar 2) mNil)))) (mC (.int 0)))) (mBnot (mT (mChain dLe dLe (mF dMin2 (mCons (m2 dIx (mVar 0) (mC (.int 0))) (mCons (m2 dIx (mVar 1) (mC (.int 0))) mNil))) (m2 dIx (mVar 2) (mC (.int 0))) (mF dMax2 (mCons (m2 dIx (mVar 0) (mC (.int 0))) (mCons (m2 dIx (mVar 1) (mC (.int 0))) mNil))))))) (mRet (mC (.bool false))) mNext) (mRet (mChain dLe dLe (mF dMin2 (mCons (m2 dIx (mVar 0) (mC (.int 1))) (mCons (m2 dIx (mVar 1) (mC (.int 1))) mNil))) (m2 dIx (mVar 2) (mC (.int 1))) (mF dMax2 (mCons (m2 dIx (mVar 0) (mC (.int 1))) (mCons (m2 dIx (mVar 1) (mC (.int 1))) mNil))))))
def m_is_on : Mf := mFn 3 3 c_is_on
theorem len_is_on {ds : List Dt} {s : Tn} {r : Dt × Tn} (h : m_is_on ds s = some r) : ds.length = 3 := mFn_len h
theorem ok_is_on (T : Tx K mg) : FnOk P w K mg base CX0 2 T.a_is_on T.d_is_on ["one", "two", "dot"] (spM 3 m_is_on) := fn_sim T.F_is_on sc_is_on fun cdv A outer s H E hr => by
  exact (sss_cons (ss_if (st_w (sw_or (st_cmp (op_neQ hr.units) (se_call (ok_turn_in T) (hr.mono (by decide)) T.g_turn_in T.F_turn_in.kp (b_turn_in T.F_turn_in) pass0 (fun _ _ _ h => len_turn_in h) (sa_cons (sv 0) (sa_cons (sv 1) (sa_cons (sv 2) sa_nil)))) se_int) (sw_oneO (st_not (st_chain op_leD op_leD (se_callB (cr_min2 rfl) T.n_min bt_min (sa_cons (se_ix ix_D (sv 0) se_int) (sa_cons (se_ix ix_D (sv 1) se_int) sa_nil))) (se_ix ix_D (sv 2) se_int) (se_callB (cr_max2 rfl) T.n_max bt_max (sa_cons (se_ix ix_D (sv 0) se_int) (sa_cons (se_ix ix_D (sv 1) se_int) sa_nil)))))))) (sss_one (ss_ret se_bl)) sss_nil) (sss_one (ss_ret (se_chain op_leD op_leD (se_callB (cr_min2 rfl) T.n_min bt_min (sa_cons (se_ix ix_D (sv 0) se_int) (sa_cons (se_ix ix_D (sv 1) se_int) sa_nil))) (se_ix ix_D (sv 2) se_int) (se_callB (cr_max2 rfl) T.n_max bt_max (sa_cons (se_ix ix_D (sv 0) se_int) (sa_cons (se_ix ix_D (sv 1) se_int) sa_nil)))))))
/-! touch: slots near far one two three four ends; level 3 -/
abbrev N_touch : List Str := ["near", "far", "one", "two", "three", "four", "ends"]
theorem sc_touch : FnScope N_touch ["near", "far"] (defScope s_touch) := ⟨rfl, rfl, rfl, by decide +kernel, rfl, by decide +kernel, by decide +kernel⟩
abbrev c_touch : mS := (mSeq (mAsg (mF dTup (mCons (mVar 0) (mCons (mVar 1) mNil))) (aTup 2 (aCons (aTup 2 (aCons (aName 2) (aCons (aName 3) aNil))) (aCons (aTup 2 (aCons (aName 4) (aCons (aName 5) aNil))) aNil)))) (mSeq (mIfS (mBor (mT (m2 dLt (mF dMax2 (mCons (m2 dIx (mVar 2) (mC (.int 0))) (mCons (m2 dIx (mVar 3) (mC (.int 0))) mNil))) (mF dMin2 (mCons (m2 dIx (mVar 4) (mC (.int 0))) (mCons (m2 dIx (mVar 5) (mC (.int 0))) mNil))))) (mT (m2 dLt (mF dMax2 (mCons (m2 dIx (mVar 4) (mC (.int 0))) (mCons (m2 dIx (mVar 5) (mC (.int 0))) mNil))) (mF dMin2 (mCons (m2 dIx (mVar 2) (mC (.int 0))) (mCons (m2 dIx (mVar 3) (mC (.int 0))) mNil)))))) (mRet (mC (.bool false))) mNext) (mSeq (mAsg (mF dTup (mCons (mCall m_turn_in (mCons (mVar 2) (mCons (mVar 3) (mCons (mVar 4) mNil)))) (mCons (mCall m_turn_in (mCons (mVar 2) (mCons (mVar 3) (mCons (mVar 5) mNil)))) (mCons (mCall m_turn_in (mCons (mVar 4) (mCons (mVar 5) (mCons (mVar 2) mNil)))) (mCons (mCall m_turn_in (mCons (mVar 4) (mCons (mVar 5) (mCons (mVar 3) mNil)))) mNil))))) (aName 6)) (mSeq (mIfS (mT (m2 dNotInS (mC (.int 0)) (mVar 6))) (mRet (mVand (m2 dLt (m2 dMul (m2 dIx (mVar 6) (mC (.int 0))) (m2 dIx (mVar 6) (mC (.int 1)))) (mC (.int 0))) (m2 dLt (m2 dMul (m2 dIx (mVar 6) (mC (.int 2))) (m2 dIx (mVar 6) (mC (.int 3)))) (mC (.int 0))))) mNext) (mSeq (mIfS (mBor (mT (mCall m_is_on (mCons (mVar 2) (mCons (mVar 3) (mCons (mVar 4) mNil))))) (mT (mCall m_is_on (mCons (mVar 2) (mCons (mVar 3) (mCons (mVar 5) mNil)))))) (mRet (mC (.bool true))) mNext) (mRet (mVor (mCall m_is_on (mCons (mVar 4) (mCons (mVar 5) (mCons (mVar 2) mNil)))) (mCall m_is_on (mCons (mVar 4) (mCons (mVar 5) (mCons (mVar 3) mNil)))))))))))
def m_touch : Mf := mFn 7 2 c_touch
theorem len_touch {ds : List Dt} {s : Tn} {r : Dt × Tn} (h : m_touch ds s = some r) : ds.length = 2 := mFn_len h
theorem ok_touch (T : Tx K mg) : FnOk P w K mg base CX0 3 T.a_touch T.d_touch ["near", "far"] (spM 2 m_touch) := fn_sim T.F_touch sc_touch fun cdv A outer s H E hr => by
  exact (sss_cons (ss_asg (se_tup (sa_cons (sv 0) (sa_cons (sv 1) sa_nil))) (sg_tup rfl (sgs_cons (sg_tup rfl (sgs_cons (sg_name 2 sc_touch.nd rfl (by first | exact Or.inl rfl | exact Or.inr rfl)) (sgs_cons (sg_name 3 sc_touch.nd rfl (by first | exact Or.inl rfl | exact Or.inr rfl)) sgs_nil))) (sgs_cons (sg_tup rfl (sgs_cons (sg_name 4 sc_touch.nd rfl (by first | exact Or.inl rfl | exact Or.inr rfl)) (sgs_cons (sg_name 5 sc_touch.nd rfl (by first | exact Or.inl rfl | exact Or.inr rfl)) sgs_nil))) sgs_nil)))) (sss_cons (ss_if (st_w (sw_or (st_cmp (op_ltD hr.units) (se_callB (cr_max2 rfl) T.n_max bt_max (sa_cons (se_ix ix_D (sv 2) se_int) (sa_cons (se_ix ix_D (sv 3) se_int) sa_nil))) (se_callB (cr_min2 rfl) T.n_min bt_min (sa_cons (se_ix ix_D (sv 4) se_int) (sa_cons (se_ix ix_D (sv 5) se_int) sa_nil)))) (sw_oneO (st_cmp (op_ltD hr.units) (se_callB (cr_max2 rfl) T.n_max bt_max (sa_cons (se_ix ix_D (sv 4) se_int) (sa_cons (se_ix ix_D (sv 5) se_int) sa_nil))) (se_callB (cr_min2 rfl) T.n_min bt_min (sa_cons (se_ix ix_D (sv 2) se_int) (sa_cons (se_ix ix_D (sv 3) se_int) sa_nil))))))) (sss_one (ss_ret se_bl)) sss_nil) (sss_cons (ss_set 6 sc_touch.nd (se_tup (sa_cons (se_call (ok_turn_in T) (hr.mono (by decide)) T.g_turn_in T.F_turn_in.kp (b_turn_in T.F_turn_in) pass0 (fun _ _ _ h => len_turn_in h) (sa_cons (sv 2) (sa_cons (sv 3) (sa_cons (sv 4) sa_nil)))) (sa_cons (se_call (ok_turn_in T) (hr.mono (by decide)) T.g_turn_in T.F_turn_in.kp (b_turn_in T.F_turn_in) pass0 (fun _ _ _ h => len_turn_in h) (sa_cons (sv 2) (sa_cons (sv 3) (sa_cons (sv 5) sa_nil)))) (sa_cons (se_call (ok_turn_in T) (hr.mono (by decide)) T.g_turn_in T.F_turn_in.kp (b_turn_in T.F_turn_in) pass0 (fun _ _ _ h => len_turn_in h) (sa_cons (sv 4) (sa_cons (sv 5) (sa_cons (sv 2) sa_nil)))) (sa_cons (se_call (ok_turn_in T) (hr.mono (by decide)) T.g_turn_in T.F_turn_in.kp (b_turn_in T.F_turn_in) pass0 (fun _ _ _ h => len_turn_in h) (sa_cons (sv 4) (sa_cons (sv 5) (sa_cons (sv 3) sa_nil)))) sa_nil)))))) (sss_cons (ss_if (st_cmp op_notInD' se_int (sv 6)) (sss_one (ss_ret (sv_and (se_cmp (op_ltD hr.units) (se_op op_mulD (se_ix ix_D (sv 6) se_int) (se_ix ix_D (sv 6) se_int)) se_int) (sv_one (se_cmp (op_ltD hr.units) (se_op op_mulD (se_ix ix_D (sv 6) se_int) (se_ix ix_D (sv 6) se_int)) se_int))))) sss_nil) (sss_cons (ss_if (st_w (sw_or (st_val (se_call (ok_is_on T) (hr.mono (by decide)) T.g_is_on T.F_is_on.kp (b_is_on T.F_is_on) pass0 (fun _ _ _ h => len_is_on h) (sa_cons (sv 2) (sa_cons (sv 3) (sa_cons (sv 4) sa_nil))))) (sw_oneO (st_val (se_call (ok_is_on T) (hr.mono (by decide)) T.g_is_on T.F_is_on.kp (b_is_on T.F_is_on) pass0 (fun _ _ _ h => len_is_on h) (sa_cons (sv 2) (sa_cons (sv 3) (sa_cons (sv 5) sa_nil)))))))) (sss_one (ss_ret se_bl)) sss_nil) (sss_one (ss_ret (sv_or (se_call (ok_is_on T) (hr.mono (by decide)) T.g_is_on T.F_is_on.kp (b_is_on T.F_is_on) pass0 (fun _ _ _ h => len_is_on h) (sa_cons (sv 4) (sa_cons (sv 5) (sa_cons (sv 2) sa_nil)))) (sv_one (se_call (ok_is_on T) (hr.mono (by decide)) T.g_is_on T.F_is_on.kp (b_is_on T.F_is_on) pass0 (fun _ _ _ h => len_is_on h) (sa_cons (sv 4) (sa_cons (sv 5) (sa_cons (sv 3) sa_nil)))))))))))))
/-! run_from: slots line start place; level 1 -/
abbrev N_run_from : List Str := ["line", "start", "place"]
theorem sc_run_from : FnScope N_run_from ["line", "start"] (defScope s_run_from) := ⟨rfl, rfl, rfl, by decide +kernel, rfl, by decide +kernel, by decide +kernel⟩
abbrev c_run_from : mS := (mSeq (mAsg (mVar 1) (aName 2)) (mSeq (mWhile (mBand (mT (m2 dLt (mVar 2) (mF dLen (mCons (mVar 0) mNil)))) (mT (m2 dIn (m2 dIx (mVar 0) (mVar 2)) (mC (.str ("abcdefghijklmnopqrstuvwxyz0123456789-" : Str)))))) (mAug 2 (mC (.int 1))) line) (mRet (mSl (mVar 0) (oSome (mVar 1)) (oSome (mVar 2))))))
def m_run_from : Mf := mFn 3 2 c_run_from
theorem len_run_from {ds : List Dt} {s : Tn} {r : Dt × Tn} (h : m_run_from ds s = some r) : ds.length = 2 := mFn_len h
theorem ok_run_from (T : Tx K mg) : FnOk P w K mg base CX0 1 T.a_run_from T.d_run_from ["line", "start"] (spM 2 m_run_from) := fn_sim T.F_run_from sc_run_from fun cdv A outer s H E hr => by
  exact (sss_cons (ss_set 2 sc_run_from.nd (sv 1)) (sss_cons (ss_while line PassesOwn.never (st_w (sw_and (st_cmp (op_ltD hr.units) (sv 2) (se_callB cr_len T.n_len bt_len (sa_cons (sv 0) sa_nil))) (sw_one (st_cmp op_inD' (se_ix ix_D (sv 0) (sv 2)) (se_globS T.k_SIGNS))))) (sss_one (ss_aug 2 sc_run_from.nd se_int))) (sss_one (ss_ret (se_slice (sv 0) (so_some (sv 1)) (so_some (sv 2)))))))
/-! is_figures: slots piece sign; level 1 -/
abbrev N_is_figures : List Str := ["piece", "sign"]
theorem sc_is_figures : FnScope N_is_figures ["piece"] (defScope s_is_figures) := ⟨rfl, rfl, rfl, by decide +kernel, rfl, by decide +kernel, by decide +kernel⟩
abbrev c_is_figures : mS := (mSeq (mIfS (mBor (mT (m2 dEq (mVar 0) (mC (.str ("" : Str))))) (mBor (mT (m2 dGt (mF dLen (mCons (mVar 0) mNil)) (mC (.int 12)))) (mBnot (mT (mF dAll (mCons (mLc (iS (mVar 0)) (aName 1) [1] (m2 dIn (mVar 1) (mC (.str ("0123456789" : Str))))) mNil)))))) (mRet (mC (.bool false))) mNext) (mRet (mVor (m2 dNe (m2 dIx (mVar 0) (mC (.int 0))) (mC (.str ("0" : Str)))) (m2 dEq (mVar 0) (mC (.str ("0" : Str)))))))
def m_is_figures : Mf := mFn 2 1 c_is_figures
theorem len_is_figures {ds : List Dt} {s : Tn} {r : Dt × Tn} (h : m_is_figures ds s = some r) : ds.length = 1 := mFn_len h
theorem ok_is_figures (T : Tx K mg) : FnOk P w K mg base CX0 1 T.a_is_figures T.d_is_figures ["piece"] (spM 1 m_is_figures) := fn_sim T.F_is_figures sc_is_figures fun cdv A outer s H E hr => by
  exact (sss_cons (ss_if (st_w (sw_or (st_cmp (op_eqQ hr.units) (sv 0) se_str) (sw_or (st_cmp op_gtD (se_callB cr_len T.n_len bt_len (sa_cons (sv 0) sa_nil)) (se_globI T.k_LONGEST)) (sw_oneO (st_not (st_val (se_callB (cr_allD rfl) T.n_all bt_all (sa_cons (se_lc (own := [("sign", 1)]) sc_is_figures.nd (si_str (sv 0)) (blkOk_by (N := N_is_figures) (sc := defScope s_is_figures) (by decide +kernel)) (fun _ _ _ _ _ => (sg_name 1 sc_is_figures.nd rfl (by first | exact Or.inl rfl | exact Or.inr rfl))) (fun _ _ _ _ _ => (se_cmp op_inD' (sv 1) (se_globS T.k_FIGURES)))) sa_nil)))))))) (sss_one (ss_ret se_bl)) sss_nil) (sss_one (ss_ret (sv_or (se_cmp (op_neQ hr.units) (se_ix ix_D (sv 0) se_int) se_str) (sv_one (se_cmp (op_eqQ hr.units) (sv 0) se_str))))))
/-! number_of: slots piece figures found sign; level 2 -/
abbrev N_number_of : List Str := ["piece", "figures", "found", "sign"]
theorem sc_number_of : FnScope N_number_of ["piece"] (defScope s_number_of) := ⟨rfl, rfl, rfl, by decide +kernel, rfl, by decide +kernel, by decide +kernel⟩
abbrev c_number_of : mS := (mSeq (mAsg (mIf (mT (m2 dEq (mSl (mVar 0) oNone (oSome (mC (.int 1)))) (mC (.str ("-" : Str))))) (mSl (mVar 0) (oSome (mC (.int 1))) oNone) (mVar 0)) (aName 1)) (mSeq (mIfS (mBor (mBnot (mT (mCall m_is_figures (mCons (mVar 1) mNil)))) (mT (m2 dEq (mVar 0) (m2 dAdd (mC (.str ("-" : Str))) (mC (.str ("0" : Str))))))) (mRet (mC .none)) mNext) (mSeq (mAsg (mC (.int 0)) (aName 2)) (mSeq (mFor (iS (mVar 1)) (aName 3) (mAsg (m2 dAdd (m2 dMul (mVar 2) (mC (.int 10))) (m2 dSIndex (mC (.str ("0123456789" : Str))) (mVar 3))) (aName 2))) (mRet (mIf (mT (m2 dEq (mVar 1) (mVar 0))) (mVar 2) (m1 dNeg (mVar 2))))))))
def m_number_of : Mf := mFn 4 1 c_number_of
theorem len_number_of {ds : List Dt} {s : Tn} {r : Dt × Tn} (h : m_number_of ds s = some r) : ds.length = 1 := mFn_len h
theorem ok_number_of (T : Tx K mg) : FnOk P w K mg base CX0 2 T.a_number_of T.d_number_of ["piece"] (spM 1 m_number_of) := fn_sim T.F_number_of sc_number_of fun cdv A outer s H E hr => by
  exact (sss_cons (ss_set 1 sc_number_of.nd (se_ifExp (st_cmp (op_eqQ hr.units) (se_slice (sv 0) so_none (so_some se_int)) (se_globS T.k_BELOW)) (se_slice (sv 0) (so_some se_int) so_none) (sv 0))) (sss_cons (ss_if (st_w (sw_or (st_not (st_val (se_call (ok_is_figures T) (hr.mono (by decide)) T.g_is_figures T.F_is_figures.kp (b_is_figures T.F_is_figures) pass0 (fun _ _ _ h => len_is_figures h) (sa_cons (sv 1) sa_nil)))) (sw_oneO (st_cmp (op_eqQ hr.units) (sv 0) (se_op op_addD (se_globS T.k_BELOW) se_str))))) (sss_one (ss_ret se_non)) sss_nil) (sss_cons (ss_set 2 sc_number_of.nd se_int) (sss_cons (ss_for PassesOwn.never rfl (si_str (sv 1)) (sg_name 3 sc_number_of.nd rfl (by first | exact Or.inl rfl | exact Or.inr rfl)) (sss_one (ss_set 2 sc_number_of.nd (se_op op_addD (se_op op_mulD (sv 2) se_int) (se_sindex (se_globS T.k_FIGURES) (sv 3)))))) (sss_one (ss_ret (se_ifExp (st_cmp (op_eqQ hr.units) (sv 1) (sv 0)) (sv 2) (se_un un_negD (sv 2)))))))))
/-! is_plan_told: slots thing own x y; level 2 -/
abbrev N_is_plan_told : List Str := ["thing", "own", "x", "y"]
theorem sc_is_plan_told : FnScope N_is_plan_told ["thing"] (defScope s_is_plan_told) := ⟨rfl, rfl, rfl, by decide +kernel, rfl, by decide +kernel, by decide +kernel⟩
abbrev c_is_plan_told : mS := (mSeq (mIfS (mBor (mBnot (mT (m1 dIsTup (mVar 0)))) (mBnot (mT (mF dAll (mCons (mLc (iT (mVar 0)) (aName 1) [1] (mCall m_is_long (mCons (mVar 1) (mCons (mC (.int 2)) mNil)))) mNil))))) (mRet (mC (.bool false))) mNext) (mRet (mF dAll (mCons (mLc (iT (mVar 0)) (aTup 2 (aCons (aName 2) (aCons (aName 3) aNil))) [2, 3] (mVand (mCall m_is_number (mCons (mVar 2) mNil)) (mVand (mCall m_is_number (mCons (mVar 3) mNil)) (mVor (m2 dNe (m2 dMod (mVar 2) (mC (.int 2))) (mC (.int 0))) (m2 dNe (m2 dMod (mVar 3) (mC (.int 2))) (mC (.int 0))))))) mNil))))
def m_is_plan_told : Mf := mFn 4 1 c_is_plan_told
theorem len_is_plan_told {ds : List Dt} {s : Tn} {r : Dt × Tn} (h : m_is_plan_told ds s = some r) : ds.length = 1 := mFn_len h
theorem ok_is_plan_told (T : Tx K mg) : FnOk P w K mg base CX0 2 T.a_is_plan_told T.d_is_plan_told ["thing"] (spM 1 m_is_plan_told) := fn_sim T.F_is_plan_told sc_is_plan_told fun cdv A outer s H E hr => by
  exact (sss_cons (ss_if (st_w (sw_or (st_not (st_val (se_isi isi_tup (sv 0) T.n_isinstance T.n_tuple bt_tuple))) (sw_oneO (st_not (st_val (se_callB (cr_allD rfl) T.n_all bt_all (sa_cons (se_lc (own := [("own", 1)]) sc_is_plan_told.nd (si_tup (sv 0)) (blkOk_by (N := N_is_plan_told) (sc := defScope s_is_plan_told) (by decide +kernel)) (fun _ _ _ _ _ => (sg_name 1 sc_is_plan_told.nd rfl (by first | exact Or.inl rfl | exact Or.inr rfl))) (fun _ _ _ _ _ => (se_call (ok_is_long T) (hr.mono (by decide)) T.g_is_long T.F_is_long.kp (b_is_long T.F_is_long) pass0 (fun _ _ _ h => len_is_long h) (sa_cons (sv 1) (sa_cons se_int sa_nil))))) sa_nil))))))) (sss_one (ss_ret se_bl)) sss_nil) (sss_one (ss_ret (se_callB (cr_allD rfl) T.n_all bt_all (sa_cons (se_lc (own := [("x", 2), ("y", 3)]) sc_is_plan_told.nd (si_tup (sv 0)) (blkOk_by (N := N_is_plan_told) (sc := defScope s_is_plan_told) (by decide +kernel)) (fun _ _ _ _ _ => (sg_tup rfl (sgs_cons (sg_name 2 sc_is_plan_told.nd rfl (by first | exact Or.inl rfl | exact Or.inr rfl)) (sgs_cons (sg_name 3 sc_is_plan_told.nd rfl (by first | exact Or.inl rfl | exact Or.inr rfl)) sgs_nil)))) (fun _ _ _ _ _ => (sv_and (se_call (ok_is_number T) (hr.mono (by decide)) T.g_is_number T.F_is_number.kp (b_is_number T.F_is_number) pass0 (fun _ _ _ h => len_is_number h) (sa_cons (sv 2) sa_nil)) (sv_and (se_call (ok_is_number T) (hr.mono (by decide)) T.g_is_number T.F_is_number.kp (b_is_number T.F_is_number) pass0 (fun _ _ _ h => len_is_number h) (sa_cons (sv 3) sa_nil)) (sv_one (sv_or (se_cmp (op_neQ hr.units) (se_op op_modD (sv 2) se_int) se_int) (sv_one (se_cmp (op_neQ hr.units) (se_op op_modD (sv 3) se_int) se_int)))))))) sa_nil)))))
/-! pairs_told: slots row name numbers piece place; level 3 -/
abbrev N_pairs_told : List Str := ["row", "name", "numbers", "piece", "place"]
theorem sc_pairs_told : FnScope N_pairs_told ["row", "name"] (defScope s_pairs_told) := ⟨rfl, rfl, rfl, by decide +kernel, rfl, by decide +kernel, by decide +kernel⟩
abbrev c_pairs_told : mS := (mSeq (mAsg (mLc (iL (mSl (mVar 0) (oSome (mC (.int 1))) oNone)) (aName 3) [3] (mCall m_number_of (mCons (mVar 3) mNil))) (aName 2)) (mSeq (mIfS (mBor (mT (m2 dNe (m2 dIx (mVar 0) (mC (.int 0))) (mVar 1))) (mBor (mT (m2 dGt (m2 dMod (mF dLen (mCons (mVar 2) mNil)) (mC (.int 2))) (mC (.int 0)))) (mT (m2 dIn (mC .none) (mVar 2))))) (mRet (mC .none)) mNext) (mRet (mF dTuple (mCons (mLc (iRng3 (mCons (mC (.int 0)) (mCons (mF dLen (mCons (mVar 2) mNil)) (mCons (mC (.int 2)) mNil)))) (aName 4) [4] (mF dTup (mCons (m2 dIx (mVar 2) (mVar 4)) (mCons (m2 dIx (mVar 2) (m2 dAdd (mVar 4) (mC (.int 1)))) mNil)))) mNil)))))
def m_pairs_told : Mf := mFn 5 2 c_pairs_told
theorem len_pairs_told {ds : List Dt} {s : Tn} {r : Dt × Tn} (h : m_pairs_told ds s = some r) : ds.length = 2 := mFn_len h
theorem ok_pairs_told (T : Tx K mg) : FnOk P w K mg base CX0 3 T.a_pairs_told T.d_pairs_told ["row", "name"] (spM 2 m_pairs_told) := fn_sim T.F_pairs_told sc_pairs_told fun cdv A outer s H E hr => by
  exact (sss_cons (ss_set 2 sc_pairs_told.nd (se_lc (own := [("piece", 3)]) sc_pairs_told.nd (si_list (se_slice (sv 0) (so_some se_int) so_none)) (blkOk_by (N := N_pairs_told) (sc := defScope s_pairs_told) (by decide +kernel)) (fun _ _ _ _ _ => (sg_name 3 sc_pairs_told.nd rfl (by first | exact Or.inl rfl | exact Or.inr rfl))) (fun _ _ _ _ _ => (se_call (ok_number_of T) (hr.mono (by decide)) T.g_number_of T.F_number_of.kp (b_number_of T.F_number_of) pass0 (fun _ _ _ h => len_number_of h) (sa_cons (sv 3) sa_nil))))) (sss_cons (ss_if (st_w (sw_or (st_cmp (op_neQ hr.units) (se_ix ix_D (sv 0) se_int) (sv 1)) (sw_or (st_cmp op_gtD (se_op op_modD (se_callB cr_len T.n_len bt_len (sa_cons (sv 2) sa_nil)) se_int) se_int) (sw_oneO (st_cmp op_inD' se_non (sv 2)))))) (sss_one (ss_ret se_non)) sss_nil) (sss_one (ss_ret (se_callT cr_tupleD T.n_tuple bt_tuple (sa_cons (se_lc (own := [("place", 4)]) sc_pairs_told.nd (si_rng3 T.n_range (sa_cons se_int (sa_cons (se_callB cr_len T.n_len bt_len (sa_cons (sv 2) sa_nil)) (sa_cons se_int sa_nil)))) (blkOk_by (N := N_pairs_told) (sc := defScope s_pairs_told) (by decide +kernel)) (fun _ _ _ _ _ => (sg_name 4 sc_pairs_told.nd rfl (by first | exact Or.inl rfl | exact Or.inr rfl))) (fun _ _ _ _ _ => (se_tup (sa_cons (se_ix ix_D (sv 2) (sv 4)) (sa_cons (se_ix ix_D (sv 2) (se_op op_addD (sv 4) se_int)) sa_nil))))) sa_nil))))))
/-! edge_told: slots row edges found; level 5 -/
abbrev N_edge_told : List Str := ["row", "edges", "found"]
theorem sc_edge_told : FnScope N_edge_told ["row", "edges"] (defScope s_edge_told) := ⟨rfl, rfl, rfl, by decide +kernel, rfl, by decide +kernel, by decide +kernel⟩
abbrev c_edge_told : mS := (mSeq (mAsg (mCall m_pairs_told (mCons (mVar 0) (mCons (mC (.str ("edge" : Str))) mNil))) (aName 2)) (mSeq (mIfS (mBor (mT (m2 dIsN (mVar 2) (mC .none))) (mBnot (mT (mCall m_is_edge (mCons (mVar 2) mNil))))) (mRet (mC .none)) mNext) (mRet (mIf (mBor (mT (m2 dEq (mVar 1) (mF dLst mNil))) (mT (m2 dLt (m2 dIx (mVar 1) (m1 dNeg (mC (.int 1)))) (mVar 2)))) (mVar 2) (mC .none)))))
def m_edge_told : Mf := mFn 3 2 c_edge_told
theorem len_edge_told {ds : List Dt} {s : Tn} {r : Dt × Tn} (h : m_edge_told ds s = some r) : ds.length = 2 := mFn_len h
theorem ok_edge_told (T : Tx K mg) : FnOk P w K mg base CX0 5 T.a_edge_told T.d_edge_told ["row", "edges"] (spM 2 m_edge_told) := fn_sim T.F_edge_told sc_edge_told fun cdv A outer s H E hr => by
  exact (sss_cons (ss_set 2 sc_edge_told.nd (se_call (ok_pairs_told T) (hr.mono (by decide)) T.g_pairs_told T.F_pairs_told.kp (b_pairs_told T.F_pairs_told) pass0 (fun _ _ _ h => len_pairs_told h) (sa_cons (sv 0) (sa_cons (se_globS T.k_EDGE) sa_nil)))) (sss_cons (ss_if (st_w (sw_or (st_cmp op_isND (sv 2) se_non) (sw_oneO (st_not (st_val (se_call (ok_is_edge T) (hr.mono (by decide)) T.g_is_edge T.F_is_edge.kp (b_is_edge T.F_is_edge) pass0 (fun _ _ _ h => len_is_edge h) (sa_cons (sv 2) sa_nil))))))) (sss_one (ss_ret se_non)) sss_nil) (sss_one (ss_ret (se_ifExp (st_w (sw_or (st_cmp (op_eqQ hr.units) (sv 1) (se_lst sa_nil)) (sw_oneO (st_cmp (op_ltD hr.units) (se_ix ix_D (sv 1) (se_un un_negD se_int)) (sv 2))))) (sv 2) se_non)))))
/-! turn_told: slots row found; level 4 -/
abbrev N_turn_told : List Str := ["row", "found"]
theorem sc_turn_told : FnScope N_turn_told ["row"] (defScope s_turn_told) := ⟨rfl, rfl, rfl, by decide +kernel, rfl, by decide +kernel, by decide +kernel⟩
abbrev c_turn_told : mS := (mSeq (mAsg (mCall m_pairs_told (mCons (mVar 0) (mCons (mC (.str ("turn" : Str))) mNil))) (aName 1)) (mRet (mIf (mBand (mT (m2 dNotN (mVar 1) (mC .none))) (mBand (mT (m2 dEq (mF dLen (mCons (mVar 1) mNil)) (mC (.int 1)))) (mT (mCall m_is_plan_told (mCons (mVar 1) mNil))))) (m2 dIx (mVar 1) (mC (.int 0))) (mC .none))))
def m_turn_told : Mf := mFn 2 1 c_turn_told
theorem len_turn_told {ds : List Dt} {s : Tn} {r : Dt × Tn} (h : m_turn_told ds s = some r) : ds.length = 1 := mFn_len h
theorem ok_turn_told (T : Tx K mg) : FnOk P w K mg base CX0 4 T.a_turn_told T.d_turn_told ["row"] (spM 1 m_turn_told) := fn_sim T.F_turn_told sc_turn_told fun cdv A outer s H E hr => by
  exact (sss_cons (ss_set 1 sc_turn_told.nd (se_call (ok_pairs_told T) (hr.mono (by decide)) T.g_pairs_told T.F_pairs_told.kp (b_pairs_told T.F_pairs_told) pass0 (fun _ _ _ h => len_pairs_told h) (sa_cons (sv 0) (sa_cons (se_globS T.k_TURN) sa_nil)))) (sss_one (ss_ret (se_ifExp (st_w (sw_and (st_cmp op_notND (sv 1) se_non) (sw_and (st_cmp (op_eqQ hr.units) (se_callB cr_len T.n_len bt_len (sa_cons (sv 1) sa_nil)) se_int) (sw_one (st_val (se_call (ok_is_plan_told T) (hr.mono (by decide)) T.g_is_plan_told T.F_is_plan_told.kp (b_is_plan_told T.F_is_plan_told) pass0 (fun _ _ _ h => len_is_plan_told h) (sa_cons (sv 1) sa_nil))))))) (se_ix ix_D (sv 1) se_int) se_non))))
end
end Md
-- Me2
set_option Elab.async false
set_option linter.all false
set_option maxRecDepth 100000
set_option maxHeartbeats 4000000
namespace Md
open PySem PySem.Spec PyProof.Rows L2
set_option autoImplicit false
section
variable {P : Program} {w : World} {K : PySem.W.Frag} {mg : Str → Option Value} {base : Heap}
/-! area_in: slots dots behind one two; level 1 -/
abbrev N_area_in : List Str := ["dots", "behind", "one", "two"]
theorem sc_area_in : FnScope N_area_in ["dots"] (defScope s_area_in) := ⟨rfl, rfl, rfl, by decide +kernel, rfl, by decide +kernel, by decide +kernel⟩
abbrev c_area_in : mS := (mSeq (mAsg (m2 dAdd (mSl (mVar 0) (oSome (mC (.int 1))) oNone) (mSl (mVar 0) oNone (oSome (mC (.int 1))))) (aName 1)) (mRet (mF dSum (mCons (mLc (iZp (mCons (mVar 0) (mCons (mVar 1) mNil))) (aTup 2 (aCons (aName 2) (aCons (aName 3) aNil))) [2, 3] (m2 dSub (m2 dMul (m2 dIx (mVar 2) (mC (.int 0))) (m2 dIx (mVar 3) (mC (.int 1)))) (m2 dMul (m2 dIx (mVar 2) (mC (.int 1))) (m2 dIx (mVar 3) (mC (.int 0)))))) mNil))))
def m_area_in : Mf := mFn 4 1 c_area_in
theorem len_area_in {ds : List Dt} {s : Tn} {r : Dt × Tn} (h : m_area_in ds s = some r) : ds.length = 1 := mFn_len h
theorem ok_area_in (T : Tx K mg) : FnOk P w K mg base CX0 1 T.a_area_in T.d_area_in ["dots"] (spM 1 m_area_in) := fn_sim T.F_area_in sc_area_in fun cdv A outer s H E hr => by
  exact (sss_cons (ss_set 1 sc_area_in.nd (se_op op_addD (se_slice (sv 0) (so_some se_int) so_none) (se_slice (sv 0) so_none (so_some se_int)))) (sss_one (ss_ret (se_callB (cr_sumD rfl) T.n_sum bt_sum (sa_cons (se_lc (own := [("one", 2), ("two", 3)]) sc_area_in.nd (si_zip T.n_zip (sa_cons (sv 0) (sa_cons (sv 1) sa_nil))) (blkOk_by (N := N_area_in) (sc := defScope s_area_in) (by decide +kernel)) (fun _ _ _ _ _ => (sg_tup rfl (sgs_cons (sg_name 2 sc_area_in.nd rfl (by first | exact Or.inl rfl | exact Or.inr rfl)) (sgs_cons (sg_name 3 sc_area_in.nd rfl (by first | exact Or.inl rfl | exact Or.inr rfl)) sgs_nil)))) (fun _ _ _ _ _ => (se_op op_subD (se_op op_mulD (se_ix ix_D (sv 2) se_int) (se_ix ix_D (sv 3) se_int)) (se_op op_mulD (se_ix ix_D (sv 2) se_int) (se_ix ix_D (sv 3) se_int))))) sa_nil)))))
/-! sides_of: slots field; level 1 -/
abbrev N_sides_of : List Str := ["field"]
theorem sc_sides_of : FnScope N_sides_of ["field"] (defScope s_sides_of) := ⟨rfl, rfl, rfl, by decide +kernel, rfl, by decide +kernel, by decide +kernel⟩
abbrev c_sides_of : mS := (mRet (mF dListZip (mCons (mVar 0) (mCons (m2 dAdd (mSl (mVar 0) (oSome (mC (.int 1))) oNone) (mSl (mVar 0) oNone (oSome (mC (.int 1))))) mNil))))
def m_sides_of : Mf := mFn 1 1 c_sides_of
theorem len_sides_of {ds : List Dt} {s : Tn} {r : Dt × Tn} (h : m_sides_of ds s = some r) : ds.length = 1 := mFn_len h
theorem ok_sides_of (T : Tx K mg) : FnOk P w K mg base CX0 1 T.a_sides_of T.d_sides_of ["field"] (spM 1 m_sides_of) := fn_sim T.F_sides_of sc_sides_of fun cdv A outer s H E hr => by
  exact (sss_one (ss_ret (se_listZip T.n_list T.n_zip (sa_cons (sv 0) (sa_cons (se_op op_addD (se_slice (sv 0) (so_some se_int) so_none) (se_slice (sv 0) so_none (so_some se_int))) sa_nil)))))
/-! are_corners: slots dots many sides number near place k; level 4 -/
abbrev N_are_corners : List Str := ["dots", "many", "sides", "number", "near", "place", "k"]
theorem sc_are_corners : FnScope N_are_corners ["dots"] (defScope s_are_corners) := ⟨rfl, rfl, rfl, by decide +kernel, rfl, by decide +kernel, by decide +kernel⟩
abbrev c_are_corners : mS := (mSeq (mPar 1 2 (mCons (mF dLen (mCons (mVar 0) mNil)) (mCons (mCall m_sides_of (mCons (mVar 0) mNil)) mNil))) (mSeq (mIfS (mBor (mT (m2 dLt (mVar 1) (mC (.int 3)))) (mT (mF dAny (mCons (mLc (iRng1 (mCons (mVar 1) mNil)) (aName 6) [6] (m2 dEq (mCall m_turn_in (mCons (m2 dIx (mVar 0) (m2 dSub (mVar 6) (mC (.int 2)))) (mCons (m2 dIx (mVar 0) (m2 dSub (mVar 6) (mC (.int 1)))) (mCons (m2 dIx (mVar 0) (mVar 6)) mNil)))) (mC (.int 0)))) mNil)))) (mRet (mC (.bool false))) mNext) (mSeq (mFor (iEn (mCons (mVar 2) mNil)) (aTup 2 (aCons (aName 3) (aCons (aName 4) aNil))) (mFor (iRng2 (mCons (m2 dAdd (mVar 3) (mC (.int 2))) (mCons (m2 dSub (mVar 1) (mF dInt (mCons (m2 dEq (mVar 3) (mC (.int 0))) mNil))) mNil))) (aName 5) (mIfS (mT (mCall m_touch (mCons (mVar 4) (mCons (m2 dIx (mVar 2) (mVar 5)) mNil)))) (mRet (mC (.bool false))) mNext))) (mRet (mC (.bool true))))))
def m_are_corners : Mf := mFn 7 1 c_are_corners
theorem len_are_corners {ds : List Dt} {s : Tn} {r : Dt × Tn} (h : m_are_corners ds s = some r) : ds.length = 1 := mFn_len h
theorem ok_are_corners (T : Tx K mg) : FnOk P w K mg base CX0 4 T.a_are_corners T.d_are_corners ["dots"] (spM 1 m_are_corners) := fn_sim T.F_are_corners sc_are_corners fun cdv A outer s H E hr => by
  exact (sss_cons (ss_par 1 2 sc_are_corners.nd (sa_cons (se_callB cr_len T.n_len bt_len (sa_cons (sv 0) sa_nil)) (sa_cons (se_call (ok_sides_of T) (hr.mono (by decide)) T.g_sides_of T.F_sides_of.kp (b_sides_of T.F_sides_of) pass0 (fun _ _ _ h => len_sides_of h) (sa_cons (sv 0) sa_nil)) sa_nil))) (sss_cons (ss_if (st_w (sw_or (st_cmp (op_ltD hr.units) (sv 1) se_int) (sw_oneO (st_val (se_callB (cr_anyD rfl) T.n_any bt_any (sa_cons (se_lc (own := [("k", 6)]) sc_are_corners.nd (si_rng1 T.n_range (sa_cons (sv 1) sa_nil)) (blkOk_by (N := N_are_corners) (sc := defScope s_are_corners) (by decide +kernel)) (fun _ _ _ _ _ => (sg_name 6 sc_are_corners.nd rfl (by first | exact Or.inl rfl | exact Or.inr rfl))) (fun _ _ _ _ _ => (se_cmp (op_eqQ hr.units) (se_call (ok_turn_in T) (hr.mono (by decide)) T.g_turn_in T.F_turn_in.kp (b_turn_in T.F_turn_in) pass0 (fun _ _ _ h => len_turn_in h) (sa_cons (se_ix ix_D (sv 0) (se_op op_subD (sv 6) se_int)) (sa_cons (se_ix ix_D (sv 0) (se_op op_subD (sv 6) se_int)) (sa_cons (se_ix ix_D (sv 0) (sv 6)) sa_nil)))) se_int))) sa_nil)))))) (sss_one (ss_ret se_bl)) sss_nil) (sss_cons (ss_for PassesOwn.never rfl (si_enum T.n_enumerate (sa_cons (sv 2) sa_nil)) (sg_tup rfl (sgs_cons (sg_name 3 sc_are_corners.nd rfl (by first | exact Or.inl rfl | exact Or.inr rfl)) (sgs_cons (sg_name 4 sc_are_corners.nd rfl (by first | exact Or.inl rfl | exact Or.inr rfl)) sgs_nil))) (sss_one (ss_for PassesOwn.never rfl (si_rng2 T.n_range (sa_cons (se_op op_addD (sv 3) se_int) (sa_cons (se_op op_subD (sv 1) (se_callT cr_intD T.n_int bt_int (sa_cons (se_cmp (op_eqQ hr.units) (sv 3) se_int) sa_nil))) sa_nil))) (sg_name 5 sc_are_corners.nd rfl (by first | exact Or.inl rfl | exact Or.inr rfl)) (sss_one (ss_if (st_val (se_call (ok_touch T) (hr.mono (by decide)) T.g_touch T.F_touch.kp (b_touch T.F_touch) pass0 (fun _ _ _ h => len_touch h) (sa_cons (sv 4) (sa_cons (se_ix ix_D (sv 2) (sv 5)) sa_nil)))) (sss_one (ss_ret se_bl)) sss_nil))))) (sss_one (ss_ret se_bl)))))
/-! is_field: slots thing own; level 5 -/
abbrev N_is_field : List Str := ["thing", "own"]
theorem sc_is_field : FnScope N_is_field ["thing"] (defScope s_is_field) := ⟨rfl, rfl, rfl, by decide +kernel, rfl, by decide +kernel, by decide +kernel⟩
abbrev c_is_field : mS := (mSeq (mIfS (mBor (mBnot (mT (m1 dIsTup (mVar 0)))) (mBor (mBnot (mT (mF dAll (mCons (mLc (iT (mVar 0)) (aName 1) [1] (mCall m_is_dot (mCons (mVar 1) mNil))) mNil)))) (mT (m2 dLt (mF dLenSet (mCons (mVar 0) mNil)) (mF dLen (mCons (mVar 0) mNil)))))) (mRet (mC (.bool false))) mNext) (mRet (mVand (mCall m_are_corners (mCons (mVar 0) mNil)) (mVand (m2 dGt (mCall m_area_in (mCons (mVar 0) mNil)) (mC (.int 0))) (m2 dEq (m2 dIx (mVar 0) (mC (.int 0))) (mF dMin1 (mCons (mVar 0) mNil)))))))
def m_is_field : Mf := mFn 2 1 c_is_field
theorem len_is_field {ds : List Dt} {s : Tn} {r : Dt × Tn} (h : m_is_field ds s = some r) : ds.length = 1 := mFn_len h
theorem ok_is_field (T : Tx K mg) : FnOk P w K mg base CX0 5 T.a_is_field T.d_is_field ["thing"] (spM 1 m_is_field) := fn_sim T.F_is_field sc_is_field fun cdv A outer s H E hr => by
  exact (sss_cons (ss_if (st_w (sw_or (st_not (st_val (se_isi isi_tup (sv 0) T.n_isinstance T.n_tuple bt_tuple))) (sw_or (st_not (st_val (se_callB (cr_allD rfl) T.n_all bt_all (sa_cons (se_lc (own := [("own", 1)]) sc_is_field.nd (si_tup (sv 0)) (blkOk_by (N := N_is_field) (sc := defScope s_is_field) (by decide +kernel)) (fun _ _ _ _ _ => (sg_name 1 sc_is_field.nd rfl (by first | exact Or.inl rfl | exact Or.inr rfl))) (fun _ _ _ _ _ => (se_call (ok_is_dot T) (hr.mono (by decide)) T.g_is_dot T.F_is_dot.kp (b_is_dot T.F_is_dot) pass0 (fun _ _ _ h => len_is_dot h) (sa_cons (sv 1) sa_nil)))) sa_nil)))) (sw_oneO (st_cmp (op_ltD hr.units) (se_lenSet hr.units T.n_len T.n_set (sa_cons (sv 0) sa_nil)) (se_callB cr_len T.n_len bt_len (sa_cons (sv 0) sa_nil))))))) (sss_one (ss_ret se_bl)) sss_nil) (sss_one (ss_ret (sv_and (se_call (ok_are_corners T) (hr.mono (by decide)) T.g_are_corners T.F_are_corners.kp (b_are_corners T.F_are_corners) pass0 (fun _ _ _ h => len_are_corners h) (sa_cons (sv 0) sa_nil)) (sv_and (se_cmp op_gtD (se_call (ok_area_in T) (hr.mono (by decide)) T.g_area_in T.F_area_in.kp (b_area_in T.F_area_in) pass0 (fun _ _ _ h => len_area_in h) (sa_cons (sv 0) sa_nil)) se_int) (sv_one (se_cmp (op_eqQ hr.units) (se_ix ix_D (sv 0) se_int) (se_callB (cr_minD rfl hr.units) T.n_min bt_min (sa_cons (sv 0) sa_nil)))))))))
end
end Md
-- Me3
set_option Elab.async false
set_option linter.all false
set_option maxRecDepth 100000
set_option maxHeartbeats 4000000
namespace Md
open PySem PySem.Spec PyProof.Rows L2
set_option autoImplicit false
section
variable {P : Program} {w : World} {K : PySem.W.Frag} {mg : Str → Option Value} {base : Heap}
/-! law_pairs_round: slots row_so; level 1 -/
abbrev N_law_pairs_round : List Str := ["_law_row_so"]
theorem sc_law_pairs_round : FnScope N_law_pairs_round ["_law_row_so"] (defScope s_law_pairs_round) := ⟨rfl, rfl, rfl, by decide +kernel, rfl, by decide +kernel, by decide +kernel⟩
abbrev c_law_pairs_round : mS := (mRet (mF dListZip (mCons (mVar 0) (mCons (m2 dAdd (mSl (mVar 0) (oSome (mC (.int 1))) oNone) (mSl (mVar 0) oNone (oSome (mC (.int 1))))) mNil))))
def m_law_pairs_round : Mf := mFn 1 1 c_law_pairs_round
theorem len_law_pairs_round {ds : List Dt} {s : Tn} {r : Dt × Tn} (h : m_law_pairs_round ds s = some r) : ds.length = 1 := mFn_len h
theorem ok_law_pairs_round (T : Tx K mg) : FnOk P w K mg base CX0 1 T.a_law_pairs_round T.d_law_pairs_round ["_law_row_so"] (spM 1 m_law_pairs_round) := fn_sim T.F_law_pairs_round sc_law_pairs_round fun cdv A outer s H E hr => by
  exact (sss_one (ss_ret (se_listZip T.n_list T.n_zip (sa_cons (sv 0) (sa_cons (se_op op_addD (se_slice (sv 0) (so_some se_int) so_none) (se_slice (sv 0) so_none (so_some se_int))) sa_nil)))))
/-! law_grounds: slots found; level 1 -/
abbrev N_law_grounds : List Str := ["_law_found"]
theorem sc_law_grounds : FnScope N_law_grounds [] (defScope s_law_grounds) := ⟨rfl, rfl, rfl, by decide +kernel, rfl, by decide +kernel, by decide +kernel⟩
abbrev c_law_grounds : mS := (mSeq (mAsg (mF dLst (mCons (mF dTup (mCons (mF dTup (mCons (mC (.int 0)) (mCons (mC (.int 0)) mNil))) (mCons (mF dTup (mCons (mC (.int 1)) (mCons (mC (.int 0)) mNil))) (mCons (mF dTup (mCons (mC (.int 0)) (mCons (mC (.int 1)) mNil))) mNil)))) (mCons (mF dTup (mCons (mF dTup (mCons (mC (.int 0)) (mCons (mC (.int 0)) mNil))) (mCons (mF dTup (mCons (mC (.int 2)) (mCons (mC (.int 0)) mNil))) (mCons (mF dTup (mCons (mC (.int 2)) (mCons (mC (.int 1)) mNil))) (mCons (mF dTup (mCons (mC (.int 0)) (mCons (mC (.int 1)) mNil))) mNil))))) (mCons (mF dTup (mCons (mF dTup (mCons (mC (.int 0)) (mCons (mC (.int 0)) mNil))) (mCons (mF dTup (mCons (mC (.int 2)) (mCons (mC (.int 0)) mNil))) (mCons (mF dTup (mCons (mC (.int 2)) (mCons (mC (.int 2)) mNil))) (mCons (mF dTup (mCons (mC (.int 0)) (mCons (mC (.int 2)) mNil))) mNil))))) mNil)))) (aName 0)) (mSeq (mAsg (m2 dAdd (mVar 0) (mF dLst (mCons (mF dTup (mCons (mF dTup (mCons (mC (.int 0)) (mCons (mC (.int 0)) mNil))) (mCons (mF dTup (mCons (mC (.int 2)) (mCons (mC (.int 0)) mNil))) (mCons (mF dTup (mCons (mC (.int 2)) (mCons (mC (.int 1)) mNil))) (mCons (mF dTup (mCons (mC (.int 1)) (mCons (mC (.int 1)) mNil))) (mCons (mF dTup (mCons (mC (.int 1)) (mCons (mC (.int 2)) mNil))) (mCons (mF dTup (mCons (mC (.int 0)) (mCons (mC (.int 2)) mNil))) mNil))))))) (mCons (mF dTup (mCons (mF dTup (mCons (mC (.int 0)) (mCons (mC (.int 0)) mNil))) (mCons (mF dTup (mCons (mC (.int 3)) (mCons (mC (.int 1)) mNil))) (mCons (mF dTup (mCons (mC (.int 1)) (mCons (mC (.int 2)) mNil))) mNil)))) (mCons (mF dTup (mCons (mF dTup (mCons (mC (.int 0)) (mCons (mC (.int 0)) mNil))) (mCons (mF dTup (mCons (mC (.int 3)) (mCons (mC (.int 0)) mNil))) (mCons (mF dTup (mCons (mC (.int 1)) (mCons (mC (.int 1)) mNil))) (mCons (mF dTup (mCons (mC (.int 0)) (mCons (mC (.int 3)) mNil))) mNil))))) mNil))))) (aName 0)) (mRet (m2 dAdd (mVar 0) (mF dLst (mCons (mF dTup (mCons (mF dTup (mCons (mC (.int 0)) (mCons (mC (.int 0)) mNil))) (mCons (mF dTup (mCons (mC (.int 2)) (mCons (mC (.int 1)) mNil))) (mCons (mF dTup (mCons (mC (.int 3)) (mCons (mC (.int 3)) mNil))) (mCons (mF dTup (mCons (mC (.int 1)) (mCons (mC (.int 2)) mNil))) mNil))))) (mCons (mF dTup (mCons (mF dTup (mCons (mC (.int 0)) (mCons (mC (.int 0)) mNil))) (mCons (mF dTup (mCons (mC (.int 3)) (mCons (mC (.int 0)) mNil))) (mCons (mF dTup (mCons (mC (.int 2)) (mCons (mC (.int 1)) mNil))) (mCons (mF dTup (mCons (mC (.int 3)) (mCons (mC (.int 2)) mNil))) (mCons (mF dTup (mCons (mC (.int 0)) (mCons (mC (.int 2)) mNil))) mNil)))))) (mCons (mF dTup (mCons (mF dTup (mCons (mC (.int 0)) (mCons (mC (.int 0)) mNil))) (mCons (mF dTup (mCons (mC (.int 1)) (mCons (mC (.int 0)) mNil))) (mCons (mF dTup (mCons (mC (.int 2)) (mCons (mC (.int 2)) mNil))) (mCons (mF dTup (mCons (mC (.int 0)) (mCons (mC (.int 1)) mNil))) mNil))))) mNil))))))))
def m_law_grounds : Mf := mFn 1 0 c_law_grounds
theorem len_law_grounds {ds : List Dt} {s : Tn} {r : Dt × Tn} (h : m_law_grounds ds s = some r) : ds.length = 0 := mFn_len h
theorem ok_law_grounds (T : Tx K mg) : FnOk P w K mg base CX0 1 T.a_law_grounds T.d_law_grounds [] (spM 0 m_law_grounds) := fn_sim T.F_law_grounds sc_law_grounds fun cdv A outer s H E hr => by
  exact (sss_cons (ss_set 0 sc_law_grounds.nd (se_lst (sa_cons (se_tup (sa_cons (se_tup (sa_cons se_int (sa_cons se_int sa_nil))) (sa_cons (se_tup (sa_cons se_int (sa_cons se_int sa_nil))) (sa_cons (se_tup (sa_cons se_int (sa_cons se_int sa_nil))) sa_nil)))) (sa_cons (se_tup (sa_cons (se_tup (sa_cons se_int (sa_cons se_int sa_nil))) (sa_cons (se_tup (sa_cons se_int (sa_cons se_int sa_nil))) (sa_cons (se_tup (sa_cons se_int (sa_cons se_int sa_nil))) (sa_cons (se_tup (sa_cons se_int (sa_cons se_int sa_nil))) sa_nil))))) (sa_cons (se_tup (sa_cons (se_tup (sa_cons se_int (sa_cons se_int sa_nil))) (sa_cons (se_tup (sa_cons se_int (sa_cons se_int sa_nil))) (sa_cons (se_tup (sa_cons se_int (sa_cons se_int sa_nil))) (sa_cons (se_tup (sa_cons se_int (sa_cons se_int sa_nil))) sa_nil))))) sa_nil))))) (sss_cons (ss_set 0 sc_law_grounds.nd (se_op op_addD (sv 0) (se_lst (sa_cons (se_tup (sa_cons (se_tup (sa_cons se_int (sa_cons se_int sa_nil))) (sa_cons (se_tup (sa_cons se_int (sa_cons se_int sa_nil))) (sa_cons (se_tup (sa_cons se_int (sa_cons se_int sa_nil))) (sa_cons (se_tup (sa_cons se_int (sa_cons se_int sa_nil))) (sa_cons (se_tup (sa_cons se_int (sa_cons se_int sa_nil))) (sa_cons (se_tup (sa_cons se_int (sa_cons se_int sa_nil))) sa_nil))))))) (sa_cons (se_tup (sa_cons (se_tup (sa_cons se_int (sa_cons se_int sa_nil))) (sa_cons (se_tup (sa_cons se_int (sa_cons se_int sa_nil))) (sa_cons (se_tup (sa_cons se_int (sa_cons se_int sa_nil))) sa_nil)))) (sa_cons (se_tup (sa_cons (se_tup (sa_cons se_int (sa_cons se_int sa_nil))) (sa_cons (se_tup (sa_cons se_int (sa_cons se_int sa_nil))) (sa_cons (se_tup (sa_cons se_int (sa_cons se_int sa_nil))) (sa_cons (se_tup (sa_cons se_int (sa_cons se_int sa_nil))) sa_nil))))) sa_nil)))))) (sss_one (ss_ret (se_op op_addD (sv 0) (se_lst (sa_cons (se_tup (sa_cons (se_tup (sa_cons se_int (sa_cons se_int sa_nil))) (sa_cons (se_tup (sa_cons se_int (sa_cons se_int sa_nil))) (sa_cons (se_tup (sa_cons se_int (sa_cons se_int sa_nil))) (sa_cons (se_tup (sa_cons se_int (sa_cons se_int sa_nil))) sa_nil))))) (sa_cons (se_tup (sa_cons (se_tup (sa_cons se_int (sa_cons se_int sa_nil))) (sa_cons (se_tup (sa_cons se_int (sa_cons se_int sa_nil))) (sa_cons (se_tup (sa_cons se_int (sa_cons se_int sa_nil))) (sa_cons (se_tup (sa_cons se_int (sa_cons se_int sa_nil))) (sa_cons (se_tup (sa_cons se_int (sa_cons se_int sa_nil))) sa_nil)))))) (sa_cons (se_tup (sa_cons (se_tup (sa_cons se_int (sa_cons se_int sa_nil))) (sa_cons (se_tup (sa_cons se_int (sa_cons se_int sa_nil))) (sa_cons (se_tup (sa_cons se_int (sa_cons se_int sa_nil))) (sa_cons (se_tup (sa_cons se_int (sa_cons se_int sa_nil))) sa_nil))))) sa_nil)))))))))
/-! law_told_round: slots row_so k one two; level 2 -/
abbrev N_law_told_round : List Str := ["_law_row_so", "_law_k", "_law_one", "_law_two"]
theorem sc_law_told_round : FnScope N_law_told_round ["_law_row_so"] (defScope s_law_told_round) := ⟨rfl, rfl, rfl, by decide +kernel, rfl, by decide +kernel, by decide +kernel⟩
abbrev c_law_told_round : mS := (mSeq (mIfS (mT (m2 dLt (mF dSum (mCons (mLc (iL (mCall m_law_pairs_round (mCons (mVar 0) mNil))) (aTup 2 (aCons (aName 2) (aCons (aName 3) aNil))) [2, 3] (m2 dSub (m2 dMul (m2 dIx (mVar 2) (mC (.int 0))) (m2 dIx (mVar 3) (mC (.int 1)))) (m2 dMul (m2 dIx (mVar 2) (mC (.int 1))) (m2 dIx (mVar 3) (mC (.int 0)))))) mNil)) (mC (.int 0)))) (mAsg (m1 dRev (mVar 0)) (aName 0)) mNext) (mSeq (mAsg (m2 dLIndex (mVar 0) (mF dMin1 (mCons (mVar 0) mNil))) (aName 1)) (mRet (mF dTuple (mCons (m2 dAdd (mSl (mVar 0) (oSome (mVar 1)) oNone) (mSl (mVar 0) oNone (oSome (mVar 1)))) mNil)))))
def m_law_told_round : Mf := mFn 4 1 c_law_told_round
theorem len_law_told_round {ds : List Dt} {s : Tn} {r : Dt × Tn} (h : m_law_told_round ds s = some r) : ds.length = 1 := mFn_len h
theorem ok_law_told_round (T : Tx K mg) : FnOk P w K mg base CX0 2 T.a_law_told_round T.d_law_told_round ["_law_row_so"] (spM 1 m_law_told_round) := fn_sim T.F_law_told_round sc_law_told_round fun cdv A outer s H E hr => by
  exact (sss_cons (ss_if (st_cmp (op_ltD hr.units) (se_callB (cr_sumD rfl) T.n_sum bt_sum (sa_cons (se_lc (own := [("_law_one", 2), ("_law_two", 3)]) sc_law_told_round.nd (si_list (se_call (ok_law_pairs_round T) (hr.mono (by decide)) T.g_law_pairs_round T.F_law_pairs_round.kp (b_law_pairs_round T.F_law_pairs_round) pass0 (fun _ _ _ h => len_law_pairs_round h) (sa_cons (sv 0) sa_nil))) (blkOk_by (N := N_law_told_round) (sc := defScope s_law_told_round) (by decide +kernel)) (fun _ _ _ _ _ => (sg_tup rfl (sgs_cons (sg_name 2 sc_law_told_round.nd rfl (by first | exact Or.inl rfl | exact Or.inr rfl)) (sgs_cons (sg_name 3 sc_law_told_round.nd rfl (by first | exact Or.inl rfl | exact Or.inr rfl)) sgs_nil)))) (fun _ _ _ _ _ => (se_op op_subD (se_op op_mulD (se_ix ix_D (sv 2) se_int) (se_ix ix_D (sv 3) se_int)) (se_op op_mulD (se_ix ix_D (sv 2) se_int) (se_ix ix_D (sv 3) se_int))))) sa_nil)) se_int) (sss_one (ss_set 0 sc_law_told_round.nd (se_rev (sv 0)))) sss_nil) (sss_cons (ss_set 1 sc_law_told_round.nd (se_lindex (units65 hr) (sv 0) (se_callB (cr_minD rfl hr.units) T.n_min bt_min (sa_cons (sv 0) sa_nil)))) (sss_one (ss_ret (se_callT cr_tupleD T.n_tuple bt_tuple (sa_cons (se_op op_addD (se_slice (sv 0) (so_some (sv 1)) so_none) (se_slice (sv 0) so_none (so_some (sv 1)))) sa_nil))))))
/-! law_faults: slots least_so found behind_so text_so line_so; level 1 -/
abbrev N_law_faults : List Str := ["_law_least_so", "_law_found", "_law_behind_so", "_law_text_so", "_law_line_so"]
theorem sc_law_faults : FnScope N_law_faults [] (defScope s_law_faults) := ⟨rfl, rfl, rfl, by decide +kernel, rfl, by decide +kernel, by decide +kernel⟩
abbrev c_law_faults : mS := (mSeq (mAsg (mC (.str ("field 0 0 1 0 0 1\n" : Str))) (aName 0)) (mSeq (mAsg (mF dLst (mCons (mF dTup (mCons (mC (.str ("" : Str))) (mCons (mC (.int 0)) mNil))) (mCons (mF dTup (mCons (mC (.str ("edge 0 0 1 0" : Str))) (mCons (mC (.int 0)) mNil))) (mCons (mF dTup (mCons (mC (.str ("field 0 0 1 0" : Str))) (mCons (mC (.int 0)) mNil))) (mCons (mF dTup (mCons (mC (.str ("field 0 0 1 0 0" : Str))) (mCons (mC (.int 0)) mNil))) (mCons (mF dTup (mCons (mC (.str ("field 0 0 0 1 1 0" : Str))) (mCons (mC (.int 0)) mNil))) (mCons (mF dTup (mCons (mC (.str ("field 1 0 0 1 0 0" : Str))) (mCons (mC (.int 0)) mNil))) mNil))))))) (aName 1)) (mSeq (mAsg (m2 dAdd (mVar 1) (mF dLst (mCons (mF dTup (mCons (mC (.str ("field 0 0 1 0 2 0 0 1" : Str))) (mCons (mC (.int 0)) mNil))) (mCons (mF dTup (mCons (mC (.str ("field 0 0 2 2 2 0 0 2" : Str))) (mCons (mC (.int 0)) mNil))) (mCons (mF dTup (mCons (mC (.str ("fields 0 0 1 0 0 1" : Str))) (mCons (mC (.int 0)) mNil))) (mCons (mF dTup (mCons (mC (.str ("field 0 0 1 0 0 01" : Str))) (mCons (mC (.int 0)) mNil))) mNil)))))) (aName 1)) (mSeq (mAsg (m2 dAdd (mVar 1) (mF dLst (mCons (mF dTup (mCons (mC (.str ("field 0 0 1 0 0 x" : Str))) (mCons (mC (.int 0)) mNil))) (mCons (mF dTup (mCons (mC (.str ("field 0 0 1 0 0 1 0 0" : Str))) (mCons (mC (.int 0)) mNil))) (mCons (mF dTup (mCons (mC (.str ("field" : Str))) (mCons (mC (.int 0)) mNil))) (mCons (mF dTup (mCons (mC (.str ("turn 1 1" : Str))) (mCons (mC (.int 0)) mNil))) (mCons (mF dTup (mCons (mC (.str ("field 0 0 2 0 1 1 1 0" : Str))) (mCons (mC (.int 0)) mNil))) mNil))))))) (aName 1)) (mSeq (mAsg (mF dLst (mCons (mF dTup (mCons (mC (.str ("edge 0 0 2 0" : Str))) (mCons (mC (.int 1)) mNil))) (mCons (mF dTup (mCons (mC (.str ("edge 1 0 0 0" : Str))) (mCons (mC (.int 1)) mNil))) (mCons (mF dTup (mCons (mC (.str ("edge 0 0 0 0" : Str))) (mCons (mC (.int 1)) mNil))) (mCons (mF dTup (mCons (mC (.str ("edge 0 0 1" : Str))) (mCons (mC (.int 1)) mNil))) (mCons (mF dTup (mCons (mC (.str ("edge 0 0 1 0 1" : Str))) (mCons (mC (.int 1)) mNil))) (mCons (mF dTup (mCons (mC (.str ("turn 2 0" : Str))) (mCons (mC (.int 1)) mNil))) mNil))))))) (aName 2)) (mSeq (mAsg (m2 dAdd (mVar 2) (mF dLst (mCons (mF dTup (mCons (mC (.str ("turn 1" : Str))) (mCons (mC (.int 1)) mNil))) (mCons (mF dTup (mCons (mC (.str ("turn 1 1 1" : Str))) (mCons (mC (.int 1)) mNil))) (mCons (mF dTup (mCons (mC (.str ("field 0 0 1 0 0 1" : Str))) (mCons (mC (.int 1)) mNil))) (mCons (mF dTup (mCons (mC (.str ("edge 0 0 1 0\nedge 0 0 1 0" : Str))) (mCons (mC (.int 2)) mNil))) (mCons (mF dTup (mCons (mC (.str ("turn 1 0\nedge 0 0 1 0" : Str))) (mCons (mC (.int 2)) mNil))) mNil))))))) (aName 2)) (mSeq (mAsg (m2 dAdd (mVar 2) (mF dLst (mCons (mF dTup (mCons (mC (.str ("edge 0 1 1 0\n\nedge 0 0 1 0" : Str))) (mCons (mC (.int 3)) mNil))) (mCons (mF dTup (mCons (mC (.str ("edge 0 0 1 -0" : Str))) (mCons (mC (.int 1)) mNil))) (mCons (mF dTup (mCons (mC (.str ("turn 1 1\nturn -4 6" : Str))) (mCons (mC (.int 2)) mNil))) (mCons (mF dTup (mCons (mC (.str ("edge" : Str))) (mCons (mC (.int 1)) mNil))) (mCons (mF dTup (mCons (mC (.str ("turn" : Str))) (mCons (mC (.int 1)) mNil))) (mCons (mF dTup (mCons (mC (.str ("1 1" : Str))) (mCons (mC (.int 1)) mNil))) mNil)))))))) (aName 2)) (mSeq (mAsg (m2 dAdd (mVar 2) (mF dLst (mCons (mF dTup (mCons (mC (.str ("edge 0 0 1 0 0 1 1 1" : Str))) (mCons (mC (.int 1)) mNil))) (mCons (mF dTup (mCons (mC (.str ("turn 1 1\nturn 1 1\nB" : Str))) (mCons (mC (.int 3)) mNil))) (mCons (mF dTup (mCons (mC (.str ("edge 0 0 1 0.5" : Str))) (mCons (mC (.int 1)) mNil))) mNil))))) (aName 2)) (mRet (m2 dAdd (mVar 1) (mLc (iL (mVar 2)) (aTup 2 (aCons (aName 3) (aCons (aName 4) aNil))) [3, 4] (mF dTup (mCons (m2 dAdd (mVar 0) (mVar 3)) (mCons (mVar 4) mNil))))))))))))))
def m_law_faults : Mf := mFn 5 0 c_law_faults
theorem len_law_faults {ds : List Dt} {s : Tn} {r : Dt × Tn} (h : m_law_faults ds s = some r) : ds.length = 0 := mFn_len h
theorem ok_law_faults (T : Tx K mg) : FnOk P w K mg base CX0 1 T.a_law_faults T.d_law_faults [] (spM 0 m_law_faults) := fn_sim T.F_law_faults sc_law_faults fun cdv A outer s H E hr => by
  exact (sss_cons (ss_set 0 sc_law_faults.nd se_str) (sss_cons (ss_set 1 sc_law_faults.nd (se_lst (sa_cons (se_tup (sa_cons se_str (sa_cons se_int sa_nil))) (sa_cons (se_tup (sa_cons se_str (sa_cons se_int sa_nil))) (sa_cons (se_tup (sa_cons se_str (sa_cons se_int sa_nil))) (sa_cons (se_tup (sa_cons se_str (sa_cons se_int sa_nil))) (sa_cons (se_tup (sa_cons se_str (sa_cons se_int sa_nil))) (sa_cons (se_tup (sa_cons se_str (sa_cons se_int sa_nil))) sa_nil)))))))) (sss_cons (ss_set 1 sc_law_faults.nd (se_op op_addD (sv 1) (se_lst (sa_cons (se_tup (sa_cons se_str (sa_cons se_int sa_nil))) (sa_cons (se_tup (sa_cons se_str (sa_cons se_int sa_nil))) (sa_cons (se_tup (sa_cons se_str (sa_cons se_int sa_nil))) (sa_cons (se_tup (sa_cons se_str (sa_cons se_int sa_nil))) sa_nil))))))) (sss_cons (ss_set 1 sc_law_faults.nd (se_op op_addD (sv 1) (se_lst (sa_cons (se_tup (sa_cons se_str (sa_cons se_int sa_nil))) (sa_cons (se_tup (sa_cons se_str (sa_cons se_int sa_nil))) (sa_cons (se_tup (sa_cons se_str (sa_cons se_int sa_nil))) (sa_cons (se_tup (sa_cons se_str (sa_cons se_int sa_nil))) (sa_cons (se_tup (sa_cons se_str (sa_cons se_int sa_nil))) sa_nil)))))))) (sss_cons (ss_set 2 sc_law_faults.nd (se_lst (sa_cons (se_tup (sa_cons se_str (sa_cons se_int sa_nil))) (sa_cons (se_tup (sa_cons se_str (sa_cons se_int sa_nil))) (sa_cons (se_tup (sa_cons se_str (sa_cons se_int sa_nil))) (sa_cons (se_tup (sa_cons se_str (sa_cons se_int sa_nil))) (sa_cons (se_tup (sa_cons se_str (sa_cons se_int sa_nil))) (sa_cons (se_tup (sa_cons se_str (sa_cons se_int sa_nil))) sa_nil)))))))) (sss_cons (ss_set 2 sc_law_faults.nd (se_op op_addD (sv 2) (se_lst (sa_cons (se_tup (sa_cons se_str (sa_cons se_int sa_nil))) (sa_cons (se_tup (sa_cons se_str (sa_cons se_int sa_nil))) (sa_cons (se_tup (sa_cons se_str (sa_cons se_int sa_nil))) (sa_cons (se_tup (sa_cons se_str (sa_cons se_int sa_nil))) (sa_cons (se_tup (sa_cons se_str (sa_cons se_int sa_nil))) sa_nil)))))))) (sss_cons (ss_set 2 sc_law_faults.nd (se_op op_addD (sv 2) (se_lst (sa_cons (se_tup (sa_cons se_str (sa_cons se_int sa_nil))) (sa_cons (se_tup (sa_cons se_str (sa_cons se_int sa_nil))) (sa_cons (se_tup (sa_cons se_str (sa_cons se_int sa_nil))) (sa_cons (se_tup (sa_cons se_str (sa_cons se_int sa_nil))) (sa_cons (se_tup (sa_cons se_str (sa_cons se_int sa_nil))) (sa_cons (se_tup (sa_cons se_str (sa_cons se_int sa_nil))) sa_nil))))))))) (sss_cons (ss_set 2 sc_law_faults.nd (se_op op_addD (sv 2) (se_lst (sa_cons (se_tup (sa_cons se_str (sa_cons se_int sa_nil))) (sa_cons (se_tup (sa_cons se_str (sa_cons se_int sa_nil))) (sa_cons (se_tup (sa_cons se_str (sa_cons se_int sa_nil))) sa_nil)))))) (sss_one (ss_ret (se_op op_addD (sv 1) (se_lc (own := [("_law_text_so", 3), ("_law_line_so", 4)]) sc_law_faults.nd (si_list (sv 2)) (blkOk_by (N := N_law_faults) (sc := defScope s_law_faults) (by decide +kernel)) (fun _ _ _ _ _ => (sg_tup rfl (sgs_cons (sg_name 3 sc_law_faults.nd rfl (by first | exact Or.inl rfl | exact Or.inr rfl)) (sgs_cons (sg_name 4 sc_law_faults.nd rfl (by first | exact Or.inl rfl | exact Or.inr rfl)) sgs_nil)))) (fun _ _ _ _ _ => (se_tup (sa_cons (se_op op_addD (sv 0) (sv 3)) (sa_cons (sv 4) sa_nil))))))))))))))))
end
end Md
-- Mx1
set_option Elab.async false
set_option linter.all false
set_option maxRecDepth 100000
set_option maxHeartbeats 4000000
/-! Statements of defs that make lists of their own (append ..) and may raise: by their data. -/
namespace Md
open PySem PySem.Spec PyProof.Rows L2
set_option autoImplicit false
abbrev Ow := List (List Dt)
structure OwnO (T : Tm) (G H : Hp) (O : Ow) : Prop where
  no : ∀ k, O.length ≤ k → T.own k = none
  at_ : ∀ (k : Nat) ds, O[k]? = some ds → ∃ p xs, T.own k = some p ∧ T.tin ≠ some p ∧ G p = none ∧ H p = some (.lst xs) ∧ DqAll G xs ds
  inj : ∀ k k' p, T.own k = some p → T.own k' = some p → k = k'
structure XT (T : Tm) (G H : Hp) (T' : Tm) (G' H' : Hp) : Prop where
  tin : T'.tin = T.tin
  own : ∀ k p, T.own k = some p → T'.own k = some p
  new : ∀ k p, T'.own k = some p → T.own k = some p ∨ H p = none
  same : ∀ b o, H b = some o → T.tin ≠ some b → (∀ k, T.own k ≠ some b) → H' b = some o
  up : Same G G'
  fresh : ∀ b o, H b = some o → G b = none → G' b = none
section
variable {T T1 T2 : Tm} {G H G1 H1 G2 H2 : Hp} {s s1 : Tn} {O O1 : Ow} {v : V} {d : Dt} {σ : L2.St} {env : Ev}
theorem OwnO.of (o : OwnO T G H O) {k : Nat} {p : Addr} (e : T.own k = some p) : ∃ ds xs, O[k]? = some ds ∧ T.tin ≠ some p ∧ G p = none ∧ H p = some (.lst xs) ∧ DqAll G xs ds := by
  by_cases c : k < O.length
  · obtain ⟨p', xs, h1, h2⟩ := o.at_ k _ (List.getElem?_eq_getElem c)
    rw [e] at h1
    cases h1
    exact ⟨_, xs, List.getElem?_eq_getElem c, h2⟩
  · rw [o.no k (Nat.le_of_not_lt c)] at e
    cases e
theorem OwnO.ext (o : OwnO T G H O) (x : Ext T G H G1 H1) : OwnO T G1 H1 O := ⟨o.no, fun k ds e => by
  obtain ⟨p, xs, h1, h2, h3, h4, h5⟩ := o.at_ k ds e
  exact ⟨p, xs, h1, h2, x.fresh p _ h4 h3, x.same p _ h4 h2, DqAll.mono x.up _ _ h5⟩, o.inj⟩
theorem XT.refl : XT T G H T G H := ⟨rfl, fun _ _ e => e, fun _ _ e => .inl e, fun _ _ e _ _ => e, Same.refl _, fun _ _ _ e => e⟩
theorem XT.of (x : Ext T G H G1 H1) : XT T G H T G1 H1 := ⟨rfl, fun _ _ e => e, fun _ _ e => .inl e, fun b o e n _ => x.same b o e n, x.up, x.fresh⟩
theorem XT.there (a : XT T G H T1 G1 H1) (w : Wd T1 s1 G1 H1) (o : OwnO T1 G1 H1 O1) {b : Addr} {u : HO} (e : H b = some u) : ∃ u', H1 b = some u' := by
  by_cases c : T.tin = some b
  · exact ⟨_, (w.tin b (a.tin.trans c)).1⟩
  · by_cases c2 : ∃ k, T.own k = some b
    · obtain ⟨k, e2⟩ := c2
      obtain ⟨_, xs, _, _, _, h, _⟩ := o.of (a.own k b e2)
      exact ⟨_, h⟩
    · exact ⟨u, a.same b u e c fun k z => c2 ⟨k, z⟩⟩
theorem XT.trans (a : XT T G H T1 G1 H1) (w : Wd T1 s1 G1 H1) (o : OwnO T1 G1 H1 O1) (b : XT T1 G1 H1 T2 G2 H2) : XT T G H T2 G2 H2 where
  tin := b.tin.trans a.tin
  own := fun k p e => b.own k p (a.own k p e)
  new := fun k p e => by
    rcases b.new k p e with h | h
    · exact a.new k p h
    · cases q : H p with
      | none => exact .inr rfl
      | some u =>
        obtain ⟨u', e'⟩ := a.there w o q
        rw [h] at e'
        cases e'
  same := fun c u e n1 n2 => b.same c u (a.same c u e n1 n2) (fun z => n1 (a.tin.symm.trans z)) fun k z => by
    rcases a.new k c z with h | h
    · exact n2 k h
    · rw [e] at h
      cases h
  up := a.up.trans b.up
  fresh := fun c u e n => by
    obtain ⟨u', e'⟩ := a.there w o e
    exact b.fresh c u' e' (a.fresh c u e n)
theorem Dv.xt (h : Dv T G v d) (x : XT T G H T1 G1 H1) : Dv T1 G1 v d := by
  rcases h with h | ⟨e, p, e1, e2⟩ | ⟨k, p, e1, e2, e3⟩
  · exact .inl (Dq.mono x.up d v h)
  · exact .inr (.inl ⟨e, p, x.tin.trans e1, e2⟩)
  · exact .inr (.inr ⟨k, p, e1, x.own k p e2, e3⟩)
theorem EnvOk.xt (h : EnvOk T G σ env) (x : XT T G H T1 G1 H1) : EnvOk T1 G1 σ env := ⟨h.len, fun i d e => by
  obtain ⟨v, h1, h2⟩ := h.at_ i d e
  exact ⟨v, h1, h2.xt x⟩⟩
theorem Dv.own_ {k : Nat} (h : Dv T G v (opq k)) : ∃ p, T.own k = some p ∧ v = .ref p := by
  rcases h with h | ⟨e, _⟩ | ⟨k', p, e, h1, h2⟩
  · cases h
  · unfold opq at e
    cases e
  · unfold opq at e
    injection e with e
    injection e with e _
    injection e with e _
    injection e with e
    have e' : k = k' := Int.ofNat.inj e
    subst e'
    exact ⟨p, h1, h2⟩
/-- a new list of one's own -/
def Tm.more (T : Tm) (k : Nat) (p : Addr) : Tm := ⟨T.tin, fun j => if j = k then some p else T.own j⟩
theorem more_same {k : Nat} {p : Addr} : (T.more k p).own k = some p := if_pos rfl
theorem more_ne {j k : Nat} {p : Addr} (h : j ≠ k) : (T.more k p).own j = T.own j := if_neg h
theorem XT.more (w : Wd T s G H) (o : OwnO T G H O) {p : Addr} (hp : H p = none) (u : HO) : XT T G H (T.more O.length p) G (upd H p u) where
  tin := rfl
  own := fun k q e => by
    rw [more_ne fun z => by rw [z, o.no _ (Nat.le_refl _)] at e; cases e]
    exact e
  new := fun k q e => by
    by_cases c : k = O.length
    · rw [c, more_same] at e
      cases e
      exact .inr hp
    · rw [more_ne c] at e
      exact .inl e
  same := fun b u' e _ _ => by
    rw [upd_ne (ne_of_none e hp)]
    exact e
  up := Same.refl _
  fresh := fun _ _ _ e => e
theorem Wd.more (w : Wd T s G H) {p : Addr} (hp : H p = none) (k : Nat) (u : HO) : Wd (T.more k p) s G (upd H p u) := ⟨fun b u' e => by
  rw [upd_ne (ne_of_none (w.sub b u' e) hp)]
  exact w.sub b u' e, fun q e => by
  obtain ⟨h1, h2⟩ := w.tin q e
  exact ⟨by rw [upd_ne (ne_of_none h1 hp)]; exact h1, h2⟩⟩
theorem OwnO.more (w : Wd T s G H) (o : OwnO T G H O) {p : Addr} (hp : H p = none) : OwnO (T.more O.length p) G (upd H p (.lst [])) (O ++ [[]]) where
  no := fun k hk => by
    rw [List.length_append, List.length_singleton] at hk
    rw [more_ne (by omega)]
    exact o.no k (by omega)
  at_ := fun k ds e => by
    by_cases c : k = O.length
    · rw [c, List.getElem?_append_right (Nat.le_refl _), Nat.sub_self] at e
      simp at e
      subst e
      refine ⟨p, [], by rw [c]; exact more_same, fun z => ?_, w.free hp, upd_same, .nil⟩
      have q := (w.tin p z).1
      rw [hp] at q
      cases q
    · have hk : k < O.length := by
        have h := (List.getElem?_eq_some_iff.mp e).1
        rw [List.length_append, List.length_singleton] at h
        omega
      rw [List.getElem?_append_left hk] at e
      obtain ⟨q, xs, h1, h2, h3, h4, h5⟩ := o.at_ k ds e
      exact ⟨q, xs, by rw [more_ne c]; exact h1, h2, h3, by rw [upd_ne (ne_of_none h4 hp)]; exact h4, h5⟩
  inj := fun k k' q e e' => by
    have no : ∀ j, T.own j ≠ some p := fun j z => by
      obtain ⟨_, xs, _, _, _, h, _⟩ := o.of z
      rw [hp] at h
      cases h
    by_cases c : k = O.length
    · by_cases c' : k' = O.length
      · rw [c, c']
      · rw [c, more_same] at e
        cases e
        rw [more_ne c'] at e'
        exact absurd e' (no k')
    · by_cases c' : k' = O.length
      · rw [c', more_same] at e'
        cases e'
        rw [more_ne c] at e
        exact absurd e (no k)
      · rw [more_ne c] at e
        rw [more_ne c'] at e'
        exact o.inj k k' q e e'
/-- the list at k is written -/
theorem own_write (w : Wd T s G H) (o : OwnO T G H O) {k : Nat} {p : Addr} {xs : List V} {ds : List Dt} (e : T.own k = some p) (hx : DqAll G xs ds) :
    XT T G H T G (upd H p (.lst xs)) ∧ Wd T s G (upd H p (.lst xs)) ∧ OwnO T G (upd H p (.lst xs)) (O.set k ds) := by
  obtain ⟨ds0, xs0, h1, h2, h3, h4, h5⟩ := o.of e
  have hk : k < O.length := (List.getElem?_eq_some_iff.mp h1).1
  refine ⟨⟨rfl, fun _ _ z => z, fun _ _ z => .inl z, fun b u z _ n => ?_, Same.refl _, fun _ _ _ z => z⟩, ⟨fun b u z => ?_, fun q z => ?_⟩, ⟨fun j hj => o.no j (by rw [List.length_set] at hj; exact hj), fun j dj z => ?_, o.inj⟩⟩
  · have hb : b ≠ p := fun c => n k (by rw [c]; exact e)
    rw [upd_ne hb]
    exact z
  · have hb : b ≠ p := fun c => by
      rw [c, h3] at z
      cases z
    rw [upd_ne hb]
    exact w.sub b u z
  · obtain ⟨a1, a2⟩ := w.tin q z
    have hq : q ≠ p := fun c => h2 (by rw [← c]; exact z)
    exact ⟨by rw [upd_ne hq]; exact a1, a2⟩
  · by_cases c : j = k
    · subst c
      rw [List.getElem?_set_self hk] at z
      cases z
      exact ⟨p, xs, e, h2, h3, upd_same, hx⟩
    · rw [List.getElem?_set_ne (Ne.symm c)] at z
      obtain ⟨q, ys, a1, a2, a3, a4, a5⟩ := o.at_ j dj z
      have hq : q ≠ p := fun z2 => c (o.inj j k p (by rw [← z2]; exact a1) e)
      exact ⟨q, ys, a1, a2, a3, by rw [upd_ne hq]; exact a4, a5⟩
end

/-! ### readings -/
inductive Fx where
  | fl (f : Fl) | ex (i : Int)
abbrev mX := Ev → Tn → Ow → Option (Fx × Tn × Ow)
abbrev mXE := Ev → Tn → Ow → Option (Dt × Tn × Ow)
abbrev mXA := Ev → Tn → Ow → Option (List Dt × Tn × Ow)
abbrev mXB := Ev → Tn → Ow → Option (Bool × Tn)
def FxOk (EX : Int → Hp → Prop) (T : Tm) (G H : Hp) (n : Nat) (E : Ends) : Fx → Prop
  | .fl f => FlOk T G H n E f
  | .ex i => EX i H
/-- the same where lists of one's own may be let go -/
structure XR (T : Tm) (G H : Hp) (T' : Tm) (G' H' : Hp) : Prop where
  tin : T'.tin = T.tin
  same : ∀ b o, H b = some o → T.tin ≠ some b → (∀ k, T.own k ≠ some b) → H' b = some o
  up : Same G G'
  fresh : ∀ b o, H b = some o → G b = none → (∀ k, T.own k ≠ some b) → G' b = none
theorem XR.of {T T1 : Tm} {G H G1 H1 : Hp} (x : XT T G H T1 G1 H1) : XR T G H T1 G1 H1 := ⟨x.tin, x.same, x.up, fun b o e n _ => x.fresh b o e n⟩
theorem XT.transR {T T1 T2 : Tm} {G H G1 H1 G2 H2 : Hp} {s1 : Tn} {O1 : Ow} (a : XT T G H T1 G1 H1) (w : Wd T1 s1 G1 H1) (o : OwnO T1 G1 H1 O1) (b : XR T1 G1 H1 T2 G2 H2) : XR T G H T2 G2 H2 where
  tin := b.tin.trans a.tin
  same := fun c u e n1 n2 => b.same c u (a.same c u e n1 n2) (fun z => n1 (a.tin.symm.trans z)) fun k z => by
    rcases a.new k c z with h | h
    · exact n2 k h
    · rw [e] at h
      cases h
  up := a.up.trans b.up
  fresh := fun c u e n n2 => by
    obtain ⟨u', e'⟩ := a.there w o e
    exact b.fresh c u' e' (a.fresh c u e n) fun k z => by
      rcases a.new k c z with h | h
      · exact n2 k h
      · rw [e] at h
        cases h
/-- what is wished behind a statement -/
def Cont (EX : Int → Hp → Prop) (T : Tm) (G H : Hp) (s' : Tn) (O' : Ow) (n : Nat) (E : Ends) : Fx → Prop
  | .fl (.rt d) => ∀ T' G' H' v, XR T G H T' G' H' → Wd T' s' G' H' → Dv T' G' v d → E.rt v H'
  | f => ∀ T' G' H', XT T G H T' G' H' → Wd T' s' G' H' → OwnO T' G' H' O' → FxOk EX T' G' H' n E f
theorem Cont.later {EX : Int → Hp → Prop} {T T1 : Tm} {G H G1 H1 : Hp} {s1 s' : Tn} {O1 O' : Ow} {n : Nat} {E : Ends} {f : Fx} (k : Cont EX T G H s' O' n E f) (x : XT T G H T1 G1 H1) (w : Wd T1 s1 G1 H1) (o : OwnO T1 G1 H1 O1) : Cont EX T1 G1 H1 s' O' n E f := by
  cases f with
  | ex i => exact fun T2 G2 H2 x2 w2 o2 => k T2 G2 H2 (x.trans w o x2) w2 o2
  | fl f =>
    cases f with
    | rt d => exact fun T2 G2 H2 v x2 w2 dv => k T2 G2 H2 v (x.transR w o x2) w2 dv
    | nx e => exact fun T2 G2 H2 x2 w2 o2 => k T2 G2 H2 (x.trans w o x2) w2 o2
    | bk e => exact fun T2 G2 H2 x2 w2 o2 => k T2 G2 H2 (x.trans w o x2) w2 o2
    | ct e => exact fun T2 G2 H2 x2 w2 o2 => k T2 G2 H2 (x.trans w o x2) w2 o2
def SX (EX : Int → Hp → Prop) (m : mX) : TS := fun E σ H => ∃ T G env s O f s' O', Wd T s G H ∧ EnvOk T G σ env ∧ OwnO T G H O ∧ m env s O = some (f, s', O') ∧ Cont EX T G H s' O' σ.length E f
def SEX (m : mXE) : TE := fun σ H Q => ∃ T G env s O d s' O', Wd T s G H ∧ EnvOk T G σ env ∧ OwnO T G H O ∧ m env s O = some (d, s', O') ∧ ∀ T' G' H' v, XT T G H T' G' H' → Wd T' s' G' H' → OwnO T' G' H' O' → Dv T' G' v d → Q v H'
def SAX (m : mXA) : TA := fun σ H Q => ∃ T G env s O ds s' O', Wd T s G H ∧ EnvOk T G σ env ∧ OwnO T G H O ∧ m env s O = some (ds, s', O') ∧ ∀ T' G' H' vs, XT T G H T' G' H' → Wd T' s' G' H' → OwnO T' G' H' O' → DvAll T' G' vs ds → Q vs H'
def SBX (m : mXB) : TT := fun σ H Q => ∃ T G env s O b s', Wd T s G H ∧ EnvOk T G σ env ∧ OwnO T G H O ∧ m env s O = some (b, s') ∧ ∀ H', XT T G H T G H' → Wd T s' G H' → OwnO T G H' O → Q b H'
/-! ### lists of one's own, as they stand -/
def unq : Dt → Option Nat
  | .dict [(.int (.ofNat k), .none)] => some k
  | _ => none
theorem unq_opq (k : Nat) : unq (opq k) = some k := rfl
theorem unq_some {d : Dt} {k : Nat} (h : unq d = some k) : d = opq k := by
  unfold unq at h
  split at h
  · cases h
    rfl
  · cases h
def thawD (O : Ow) (d : Dt) : Dt := match unq d with
  | some k => match O[k]? with
    | some ds => .list ds
    | none => d
  | none => d
def thaw (O : Ow) (env : Ev) : Ev := env.map fun d => d.map (thawD O)
/-- what never changes, and the lists of one's own -/
noncomputable def Gall (T : Tm) (G H : Hp) : Hp := fun b => open Classical in if (∃ k, T.own k = some b) then H b else G b
section
variable {T T1 T2 : Tm} {G H G1 H1 G2 H2 : Hp} {s s1 : Tn} {O O1 : Ow} {v : V} {d : Dt} {σ : L2.St} {env : Ev}
theorem gall_own {k : Nat} {p : Addr} (e : T.own k = some p) : Gall T G H p = H p := if_pos ⟨k, e⟩
theorem gall_no {b : Addr} (n : ¬ ∃ k, T.own k = some b) : Gall T G H b = G b := if_neg n
theorem gall_up (o : OwnO T G H O) : Same G (Gall T G H) := fun b u e => by
  have n : ¬ ∃ k, T.own k = some b := fun ⟨k, z⟩ => by
    obtain ⟨_, _, _, _, h, _⟩ := o.of z
    rw [e] at h
    cases h
  rw [gall_no n]
  exact e
theorem gall_wd (w : Wd T s G H) (o : OwnO T G H O) : Wd T s (Gall T G H) H := ⟨fun b u e => by
  by_cases c : ∃ k, T.own k = some b
  · obtain ⟨k, z⟩ := c
    rw [gall_own z] at e
    exact e
  · rw [gall_no c] at e
    exact w.sub b u e, fun p e => by
  obtain ⟨h1, h2⟩ := w.tin p e
  refine ⟨h1, ?_⟩
  have n : ¬ ∃ k, T.own k = some p := fun ⟨k, z⟩ => by
    obtain ⟨_, _, _, h, _⟩ := o.of z
    exact h e
  rw [gall_no n]
  exact h2⟩
theorem dv_thaw (o : OwnO T G H O) (h : Dv T G v d) : Dv T (Gall T G H) v (thawD O d) := by
  unfold thawD
  split
  · rename_i k e
    have e2 := unq_some e
    subst e2
    obtain ⟨p, hp, rfl⟩ := h.own_
    obtain ⟨ds, xs, h1, h2, h3, h4, h5⟩ := o.of hp
    rw [h1]
    exact .inl (.lst ((gall_own hp).trans h4) (DqAll.mono (gall_up o) _ _ h5))
  · exact h.mono (gall_up o)
theorem env_thaw (o : OwnO T G H O) (h : EnvOk T G σ env) : EnvOk T (Gall T G H) σ (thaw O env) := ⟨by unfold thaw; rw [List.length_map]; exact h.len, fun i d e => by
  unfold thaw at e
  rw [List.getElem?_map] at e
  obtain ⟨x, hx, e2⟩ := Option.map_eq_some_iff.mp e
  obtain ⟨y, hy, e3⟩ := Option.map_eq_some_iff.mp e2
  subst hy
  subst e3
  obtain ⟨v, h1, h2⟩ := h.at_ i y hx
  exact ⟨v, h1, dv_thaw o h2⟩⟩
/-- back from a look at the lists: all stands -/
theorem back (w : Wd T s G H) (o : OwnO T G H O) (x : Ext T (Gall T G H) H G1 H1) (w1 : Wd T s1 G1 H1) : XT T G H T G H1 ∧ Wd T s1 G H1 ∧ OwnO T G H1 O := by
  refine ⟨⟨rfl, fun _ _ e => e, fun _ _ e => .inl e, fun b u e n _ => x.same b u e n, Same.refl _, fun _ _ _ e => e⟩, ⟨fun b u e => x.same b u (w.sub b u e) fun z => ?_, fun p z => ⟨(w1.tin p z).1, (w.tin p z).2⟩⟩, ⟨o.no, fun k ds e => ?_, o.inj⟩⟩
  · have q := (w.tin b z).2
    rw [e] at q
    cases q
  · obtain ⟨p, xs, h1, h2, h3, h4, h5⟩ := o.at_ k ds e
    exact ⟨p, xs, h1, h2, h3, x.same p _ h4 h2, h5⟩
end
end Md
-- Mx2
set_option Elab.async false
set_option linter.all false
set_option maxRecDepth 100000
set_option maxHeartbeats 4000000
/-! Rules for the readings SX, SEX, SAX, SBX. -/
namespace Md
open PySem PySem.Spec PyProof.Rows L2
set_option autoImplicit false
def mUp (m : mS) : mX := fun env s O => match m env s with
  | some (f, s1) => some (.fl f, s1, O)
  | none => none
def mNextX : mX := fun env s O => some (.fl (.nx env), s, O)
def mSeqX (a b : mX) : mX := fun env s O => match a env s O with
  | some (.fl (.nx e), s1, O1) => b e s1 O1
  | r => r
def fz (c : mB) : mXB := fun env s O => c (thaw O env) s
def mIfX (c : mXB) (a b : mX) : mX := fun env s O => match c env s O with
  | some (true, s1) => a env s1 O
  | some (false, s1) => b env s1 O
  | none => none
def mUpE (m : mE) : mXE := fun env s O => match m env s with
  | some (d, s1) => some (d, s1, O)
  | none => none
def mNewE : mXE := fun _ s O => some (opq O.length, s, O ++ [[]])
def mIfE (c : mXB) (a b : mXE) : mXE := fun env s O => match c env s O with
  | some (true, s1) => a env s1 O
  | some (false, s1) => b env s1 O
  | none => none
def mNilX : mXA := fun _ s O => some ([], s, O)
def mConsX (a : mXE) (r : mXA) : mXA := fun env s O => match a env s O with
  | some (d, s1, O1) => match r env s1 O1 with
    | some (ds, s2, O2) => some (d :: ds, s2, O2)
    | none => none
  | none => none
def mSetX (i : Nat) (a : mXE) : mX := fun env s O => match a env s O with
  | some (d, s1, O1) => some (.fl (.nx (env.set i (some d))), s1, O1)
  | none => none
def mParX (i j : Nat) (a : mXA) : mX := fun env s O => match a env s O with
  | some ([d, e], s1, O1) => some (.fl (.nx ((env.set i (some d)).set j (some e))), s1, O1)
  | _ => none
def mPar3X (i j l : Nat) (a : mXA) : mX := fun env s O => match a env s O with
  | some ([d, e, f], s1, O1) => some (.fl (.nx (((env.set i (some d)).set j (some e)).set l (some f))), s1, O1)
  | _ => none
def mRetX (a : mXE) : mX := fun env s O => match a env s O with
  | some (d, s1, O1) => some (.fl (.rt d), s1, O1)
  | none => none
def mRetT (a : mE) : mX := fun env s O => match a (thaw O env) s with
  | some (d, s1) => if unq d = none then some (.fl (.rt d), s1, []) else none
  | none => none
def mApp (i : Nat) (a : mE) : mX := fun env s O => match env[i]? with
  | some (some q) => match unq q with
    | some k => match a env s with
      | some (d, s1) => match O[k]? with
        | some ds => if ds.length < line ∧ isTin d = false then some (.fl (.nx env), s1, O.set k (ds ++ [d])) else none
        | none => none
      | none => none
    | none => none
  | _ => none
section
variable {X : Cx} {EX : Int → Hp → Prop} {st : Stmt} {rest : List Stmt} {e : Expr} {es : List Expr} {pos : Pos} {me : mE} {ma mb : mX} {mx my : mXE} {mc : mB} {mr : mXA} {cx : mXB}
theorem sx_up {m : mS} (h : PS X st (SS m)) : PS X st (SX EX (mUp m)) := sim_ps h fun E σ H h => by
  obtain ⟨T, G, env, s, O, f, s', O', w, e, o, hm, k⟩ := h
  unfold mUp at hm
  split at hm
  · rename_i f1 s1 h1
    cases hm
    refine ⟨T, G, env, s, f1, s', w, e, h1, fun G1 H1 x w1 => ?_⟩
    cases f1 with
    | rt d => exact fun v dv => k T G1 H1 v (.of (.of x)) w1 dv
    | nx e1 => exact k T G1 H1 (.of x) w1 (o.ext x)
    | bk e1 => exact k T G1 H1 (.of x) w1 (o.ext x)
    | ct e1 => exact k T G1 H1 (.of x) w1 (o.ext x)
  · cases hm
theorem sxs_nil : PSs X [] (SX EX mNextX) := sim_pss pss_nil fun E σ H h => by
  obtain ⟨T, G, env, s, O, f, s', O', w, e, o, hm, k⟩ := h
  cases hm
  exact k T G H .refl w o σ e rfl
theorem sxs_one (h : PS X st (SX EX ma)) : PSs X [st] (SX EX ma) := pss_one h
theorem sxs_cons (h1 : PS X st (SX EX ma)) (h2 : PSs X rest (SX EX mb)) : PSs X (st :: rest) (SX EX (mSeqX ma mb)) := sim_pss (pss_cons h1 h2) fun E σ H h => by
  obtain ⟨T, G, env, s, O, f, s', O', w, e, o, hm, k⟩ := h
  unfold mSeqX at hm
  show SX EX ma { E with nx := SX EX mb E } σ H
  split at hm
  · rename_i e1 s1 O1 h1
    refine ⟨T, G, env, s, O, .fl (.nx e1), s1, O1, w, e, o, h1, fun T1 G1 H1 x1 w1 o1 σ1 eo1 hl1 => ?_⟩
    rw [← hl1] at k
    exact ⟨T1, G1, e1, s1, O1, f, s', O', w1, eo1, o1, hm, k.later x1 w1 o1⟩
  · rename_i hne
    refine ⟨T, G, env, s, O, f, s', O', w, e, o, hm, ?_⟩
    cases f with
    | ex i => exact k
    | fl f =>
      cases f with
      | nx e1 => exact absurd hm (hne e1 s' O')
      | rt d => exact k
      | bk e1 => exact k
      | ct e1 => exact k
theorem stx {c : Expr} (h : PT X c (SB mc)) : PT X c (SBX (fz mc)) := sim_pt h fun σ H Q h => by
  obtain ⟨T, G, env, s, O, b, s', w, e, o, hm, k⟩ := h
  refine ⟨T, Gall T G H, thaw O env, s, b, s', gall_wd w o, env_thaw o e, hm, fun G1 H1 x w1 => ?_⟩
  obtain ⟨a1, a2, a3⟩ := back w o x w1
  exact k H1 a1 a2 a3
theorem SBX.seq {T : Tm} {G H : Hp} {s s1 : Tn} {O : Ow} {σ : L2.St} {env : Ev} {b : Bool} {R : Bool → Hp → Prop} (w : Wd T s G H) (e : EnvOk T G σ env) (o : OwnO T G H O) (hm : cx env s O = some (b, s1)) (k : ∀ H1, XT T G H T G H1 → Wd T s1 G H1 → OwnO T G H1 O → R b H1) : SBX cx σ H R :=
  ⟨T, G, env, s, O, b, s1, w, e, o, hm, k⟩
theorem SEX.seq {T : Tm} {G H : Hp} {s s1 : Tn} {O O1 : Ow} {σ : L2.St} {env : Ev} {d : Dt} {R : VK} (w : Wd T s G H) (e : EnvOk T G σ env) (o : OwnO T G H O) (hm : mx env s O = some (d, s1, O1)) (k : ∀ T1 G1 H1 v, XT T G H T1 G1 H1 → Wd T1 s1 G1 H1 → OwnO T1 G1 H1 O1 → EnvOk T1 G1 σ env → Dv T1 G1 v d → R v H1) : SEX mx σ H R :=
  ⟨T, G, env, s, O, d, s1, O1, w, e, o, hm, fun T1 G1 H1 v x w1 o1 dv => k T1 G1 H1 v x w1 o1 (e.xt x) dv⟩
theorem SAX.seq {T : Tm} {G H : Hp} {s s1 : Tn} {O O1 : Ow} {σ : L2.St} {env : Ev} {d : List Dt} {R : List V → Hp → Prop} (w : Wd T s G H) (e : EnvOk T G σ env) (o : OwnO T G H O) (hm : mr env s O = some (d, s1, O1)) (k : ∀ T1 G1 H1 v, XT T G H T1 G1 H1 → Wd T1 s1 G1 H1 → OwnO T1 G1 H1 O1 → EnvOk T1 G1 σ env → DvAll T1 G1 v d → R v H1) : SAX mr σ H R :=
  ⟨T, G, env, s, O, d, s1, O1, w, e, o, hm, fun T1 G1 H1 v x w1 o1 dv => k T1 G1 H1 v x w1 o1 (e.xt x) dv⟩
theorem SX.seq {T : Tm} {G H : Hp} {s s1 : Tn} {O O1 : Ow} {σ : L2.St} {env : Ev} {f : Fx} {E : Ends} {m : mX} (w : Wd T s G H) (e : EnvOk T G σ env) (o : OwnO T G H O) (hm : m env s O = some (f, s1, O1)) (k : Cont EX T G H s1 O1 σ.length E f) : SX EX m E σ H :=
  ⟨T, G, env, s, O, f, s1, O1, w, e, o, hm, k⟩
theorem sx_if {c : Expr} {a b : List Stmt} (hc : PT X c (SBX cx)) (ha : PSs X a (SX EX ma)) (hb : PSs X b (SX EX mb)) : PS X (.If c a b pos) (SX EX (mIfX cx ma mb)) := sim_ps (ps_if hc ha hb) fun E σ H h => by
  obtain ⟨T, G, env, s, O, f, s', O', w, e, o, hm, k⟩ := h
  unfold mIfX at hm
  split at hm
  · rename_i s1 h1
    refine SBX.seq w e o h1 fun H1 x1 w1 o1 => ?_
    rw [if_pos rfl]
    exact SX.seq w1 e o1 hm (k.later x1 w1 o1)
  · rename_i s1 h1
    refine SBX.seq w e o h1 fun H1 x1 w1 o1 => ?_
    rw [if_neg Bool.false_ne_true]
    exact SX.seq w1 e o1 hm (k.later x1 w1 o1)
  · cases hm
theorem sex_up (h : PE X e (SE me)) : PE X e (SEX (mUpE me)) := sim_pe h fun σ H Q h => by
  obtain ⟨T, G, env, s, O, d, s', O', w, e, o, hm, k⟩ := h
  unfold mUpE at hm
  split at hm
  · rename_i d1 s1 h1
    cases hm
    exact ⟨T, G, env, s, d, s', w, e, h1, fun G1 H1 v x w1 dv => k T G1 H1 v (.of x) w1 (o.ext x) dv⟩
  · cases hm
theorem sex_new : PE X (.List [] pos) (SEX mNewE) := sim_pe (pe_lst pa_nil) fun σ H Q h => by
  obtain ⟨T, G, env, s, O, d, s', O', w, e, o, hm, k⟩ := h
  cases hm
  exact ⟨Nat.zero_le _, fun p hp => k _ _ _ _ (XT.more w o hp _) (w.more hp _ _) (o.more w hp) (.inr (.inr ⟨_, p, rfl, more_same, rfl⟩))⟩
theorem sex_if {c a b : Expr} (hc : PT X c (SBX cx)) (ha : PE X a (SEX mx)) (hb : PE X b (SEX my)) : PE X (.IfExp c a b pos) (SEX (mIfE cx mx my)) := sim_pe (pe_ifExp hc ha hb) fun σ H Q h => by
  obtain ⟨T, G, env, s, O, d, s', O', w, e, o, hm, k⟩ := h
  unfold mIfE at hm
  split at hm
  · rename_i s1 h1
    refine SBX.seq w e o h1 fun H1 x1 w1 o1 => ?_
    rw [if_pos rfl]
    exact SEX.seq w1 e o1 hm fun T2 G2 H2 v x2 w2 o2 _ dv => k T2 G2 H2 v (x1.trans w1 o1 x2) w2 o2 dv
  · rename_i s1 h1
    refine SBX.seq w e o h1 fun H1 x1 w1 o1 => ?_
    rw [if_neg Bool.false_ne_true]
    exact SEX.seq w1 e o1 hm fun T2 G2 H2 v x2 w2 o2 _ dv => k T2 G2 H2 v (x1.trans w1 o1 x2) w2 o2 dv
  · cases hm
theorem sax_nil : PA X [] (SAX mNilX) := sim_pa pa_nil fun σ H Q h => by
  obtain ⟨T, G, env, s, O, d, s', O', w, e, o, hm, k⟩ := h
  cases hm
  exact k T G H [] .refl w o .nil
theorem sax_cons (ha : PE X e (SEX mx)) (hr : PA X es (SAX mr)) (hs : starEach (e :: es) X.env = (false, eval e X.env) :: starEach es X.env := by rfl) : PA X (e :: es) (SAX (mConsX mx mr)) := sim_pa (pa_cons ha hr hs) fun σ H Q h => by
  obtain ⟨T, G, env, s, O, d, s', O', w, e, o, hm, k⟩ := h
  unfold mConsX at hm
  split at hm
  · rename_i d1 s1 O1 h1
    split at hm
    · rename_i ds2 s2 O2 h2
      cases hm
      exact SEX.seq w e o h1 fun T1 G1 H1 v x1 w1 o1 e1 dv1 => SAX.seq w1 e1 o1 h2 fun T2 G2 H2 vs x2 w2 o2 _ dv2 => k T2 G2 H2 _ (x1.trans w1 o1 x2) w2 o2 (.cons (dv1.xt x2) dv2)
    · cases hm
  · cases hm
theorem EnvOk.setX {T : Tm} {G : Hp} {σ : L2.St} {env : Ev} (e : EnvOk T G σ env) (i : Nat) {v : V} {d : Dt} (h : Dv T G v d) : EnvOk T G (σ.set i (some v)) (env.set i (some d)) := e.set i h
theorem sx_set (i : Nat) {x : Str} {pos' : Pos} (hN : X.N.Nodup) (he : PE X e (SEX mx)) (hi : X.N[i]? = some x := by rfl) (hx : Loc X.env.scope x := by first | exact Or.inl rfl | exact Or.inr rfl) (hs : swapsWith e (some (.Name x pos')) pos.line X.env = pure false := by rfl)
    (hf : X.fn x = true ∨ X.env.scope.names.lookup x = some .local := by first | exact .inl rfl | exact .inr rfl | assumption) : PS X (.Assign [.Name x pos'] e pos) (SX EX (mSetX i mx)) := sim_ps (ps_set hN hi hx he hs hf) fun E σ H h => by
  obtain ⟨T, G, env, s, O, f, s', O', w, e, o, hm, k⟩ := h
  unfold mSetX at hm
  split at hm
  · rename_i d1 s1 O1 h1
    cases hm
    exact SEX.seq w e o h1 fun T1 G1 H1 v x1 w1 o1 e1 dv1 => k T1 G1 H1 x1 w1 o1 _ (e1.set i dv1) (List.length_set ..)
  · cases hm
theorem sx_par (i j : Nat) {x y : Str} {a b : Expr} {px py pt : Pos} {kt k2 pt2} (hN : X.N.Nodup) (ha : PA X [a, b] (SAX mr)) (hc : X.calm = true := by rfl) (hi : X.N[i]? = some x := by rfl) (hj : X.N[j]? = some y := by rfl) (hij : i ≠ j := by decide)
    (hx : X.env.scope.names.lookup x = some .local := by rfl) (hy : X.env.scope.names.lookup y = some .local := by rfl)
    (hw : swappedStores [.Tuple [.Name x px, .Name y py] kt pt] (.Tuple [a, b] k2 pt2) X.env = pure (some [x, y]) := by rfl)
    (hs : swapsWithSole [.Tuple [.Name x px, .Name y py] kt pt] (.Tuple [a, b] k2 pt2) pos.line X.env = pure false := by rfl) :
    PS X (.Assign [.Tuple [.Name x px, .Name y py] kt pt] (.Tuple [a, b] k2 pt2) pos) (SX EX (mParX i j mr)) := sim_ps (ps_par hc hN hi hj hij hx hy ha hw hs) fun E σ H h => by
  obtain ⟨T, G, env, s, O, f, s', O', w, e, o, hm, k⟩ := h
  unfold mParX at hm
  split at hm
  · rename_i d1 d2 s1 O1 h1
    cases hm
    refine SAX.seq w e o h1 fun T1 G1 H1 v x1 w1 o1 e1 dv1 => ?_
    cases dv1 with
    | cons p q =>
      cases q with
      | cons p' q' =>
        cases q'
        exact ⟨_, _, rfl, k T1 G1 H1 x1 w1 o1 _ ((e1.set i p).set j p') (by rw [List.length_set, List.length_set])⟩
  · cases hm
theorem sx_par3 (i j l : Nat) {x y z : Str} {a b c : Expr} {px py pz pt : Pos} {kt k2 pt2} (hN : X.N.Nodup) (ha : PA X [a, b, c] (SAX mr)) (hc : X.calm = true := by rfl) (hi : X.N[i]? = some x := by rfl) (hj : X.N[j]? = some y := by rfl) (hl : X.N[l]? = some z := by rfl) (hij : i ≠ j := by decide) (hil : i ≠ l := by decide) (hjl : j ≠ l := by decide)
    (hx : X.env.scope.names.lookup x = some .local := by rfl) (hy : X.env.scope.names.lookup y = some .local := by rfl) (hz : X.env.scope.names.lookup z = some .local := by rfl)
    (hw : swappedStores [.Tuple [.Name x px, .Name y py, .Name z pz] kt pt] (.Tuple [a, b, c] k2 pt2) X.env = pure (some [x, y, z]) := by rfl)
    (hs : swapsWithSole [.Tuple [.Name x px, .Name y py, .Name z pz] kt pt] (.Tuple [a, b, c] k2 pt2) pos.line X.env = pure false := by rfl) :
    PS X (.Assign [.Tuple [.Name x px, .Name y py, .Name z pz] kt pt] (.Tuple [a, b, c] k2 pt2) pos) (SX EX (mPar3X i j l mr)) := sim_ps (ps_par3 hc hN hi hj hl hij hil hjl hx hy hz ha hw hs) fun E σ H h => by
  obtain ⟨T, G, env, s, O, f, s', O', w, e, o, hm, k⟩ := h
  unfold mPar3X at hm
  split at hm
  · rename_i d1 d2 d3 s1 O1 h1
    cases hm
    refine SAX.seq w e o h1 fun T1 G1 H1 v x1 w1 o1 e1 dv1 => ?_
    cases dv1 with
    | cons p q =>
      cases q with
      | cons p' q' =>
        cases q' with
        | cons p2 q2 =>
          cases q2
          exact ⟨_, _, _, rfl, k T1 G1 H1 x1 w1 o1 _ (((e1.set i p).set j p').set l p2) (by rw [List.length_set, List.length_set, List.length_set])⟩
  · cases hm
theorem sx_ret (he : PE X e (SEX mx)) : PS X (.Return (some e) pos) (SX EX (mRetX mx)) := sim_ps (ps_ret he) fun E σ H h => by
  obtain ⟨T, G, env, s, O, f, s', O', w, e, o, hm, k⟩ := h
  unfold mRetX at hm
  split at hm
  · rename_i d1 s1 O1 h1
    cases hm
    exact SEX.seq w e o h1 fun T1 G1 H1 v x1 w1 o1 _ dv1 => k T1 G1 H1 v (.of x1) w1 dv1
  · cases hm
/-- all is let go -/
theorem sx_retT (he : PE X e (SE me)) : PS X (.Return (some e) pos) (SX EX (mRetT me)) := sim_ps (ps_ret he) fun E σ H h => by
  obtain ⟨T, G, env, s, O, f, s', O', w, e, o, hm, k⟩ := h
  unfold mRetT at hm
  split at hm
  · rename_i d1 s1 h1
    split at hm
    · cases hm
      exact SE.seq (gall_wd w o) (env_thaw o e) h1 fun G1 H1 v x1 w1 _ dv1 => k T G1 H1 v ⟨rfl, fun b u e n _ => x1.same b u e n, (gall_up o).trans x1.up, fun b u e n n2 => x1.fresh b u e (by
        rw [gall_no fun ⟨j, z⟩ => n2 j z]
        exact n)⟩ w1 dv1
    · cases hm
  · cases hm
theorem sx_append (i : Nat) {x : Str} {p0 apos cpos : Pos} (he : PE X e (SE me)) (hi : X.N[i]? = some x := by rfl) (hv : Vis X.env.scope x := by first | exact Or.inl rfl | exact Or.inr (Or.inl rfl) | exact Or.inr (Or.inr rfl))
    (hfew : ((backTo cpos (starEach [e] X.env)).all (fun x => !x.1) && (backToKw cpos (keywordEach [] X.env)).all (fun x => x.1.isSome)
      && decide ([e].length + ([] : List Keyword).length + (if ([] : List Keyword).isEmpty then 0 else 1) < 30)) = true := by rfl)
    (hline : (apos.endLine == cpos.line) = true := by rfl) (hd : (x == ("__debug__" : Str)) = false := by decide) (hcd : (x == ("__classdict__" : Str)) = false := by decide) (hs : starEach [e] X.env = (false, eval e X.env) :: starEach [] X.env := by rfl) (hbase : attributeBase (.Name x p0) "append" X.env (eval (.Name x p0) X.env) = eval (.Name x p0) X.env := by rfl)
    (hsw : swapsWith (.Call (.Attribute (.Name x p0) "append" apos) [e] [] cpos) none pos.line X.env = pure false := by rfl) :
    PS X (.Expr (.Call (.Attribute (.Name x p0) "append" apos) [e] [] cpos) pos) (SX EX (mApp i me)) := sim_ps (ps_expr (pe_bm PySem.F.plainAttrs_list PySem.F.slot_list_append PySem.F.type_list_append mt_append (pe_var hi hv hd hcd) (sa_cons he sa_nil hs) hbase hfew hline hs rfl) hsw) fun E σ H h => by
  obtain ⟨T, G, env, s, O, f, s', O', w, e, o, hm, k⟩ := h
  unfold mApp at hm
  split at hm
  · rename_i q hq
    split at hm
    · rename_i j hj
      have e2 := unq_some hj
      subst e2
      split at hm
      · rename_i d s1 h1
        split at hm
        · rename_i ds hds
          split at hm
          · rename_i hc
            cases hm
            obtain ⟨v, hv1, hv2⟩ := e.at_ i _ hq
            obtain ⟨p, hp, rfl⟩ := hv2.own_
            obtain ⟨ds', xs, a1, a2, a3, a4, a5⟩ := o.of hp
            rw [hds] at a1
            cases a1
            refine ⟨_, hv1, .inl ⟨rfl, xs, SqL.of a4⟩, SA.seq (d := [d]) w e (show mCons me mNil env s = some ([d], s') by unfold mCons mNil; rw [h1]) fun G1 H1 vs x1 w1 e1 dv1 => ?_⟩
            cases dv1 with
            | cons r1 r2 =>
              cases r2
              rename_i y
              have o1 := o.ext x1
              obtain ⟨ds', xs1, b1, b2, b3, b4, b5⟩ := o1.of hp
              rw [hds] at b1
              cases b1
              obtain ⟨c1, c2, c3⟩ := own_write w1 o1 hp (b5.append (.cons (r1.dq (isTin_not hc.2)) .nil))
              exact ⟨p, xs1, y, rfl, rfl, b4, by rw [b5.length, sizeLine_is]; exact hc.1, k T G1 _ ((XT.of x1).trans w1 o1 c1) c2 c3 σ e1 rfl⟩
          · cases hm
        · cases hm
      · cases hm
    · cases hm
  · cases hm
end
end Md
-- Mx3
set_option Elab.async false
set_option linter.all false
set_option maxRecDepth 100000
set_option maxHeartbeats 4000000
/-! Loops, calls and ends in the readings SX, SEX. -/
namespace Md
open PySem PySem.Spec PyProof.Rows L2
set_option autoImplicit false
theorem Wd.tinEq {T T1 : Tm} {s : Tn} {G H : Hp} (w : Wd T s G H) (e : T1.tin = T.tin) : Wd T1 s G H := ⟨w.sub, fun p h => w.tin p (e ▸ h)⟩
theorem Ext.tinEq {T T1 : Tm} {G H G1 H1 : Hp} (x : Ext T G H G1 H1) (e : T1.tin = T.tin) : Ext T1 G H G1 H1 := ⟨fun b o h n => x.same b o h (e ▸ n), x.up, x.fresh⟩
def mWhileX (c : mXB) (t : mX) : Nat → mX
  | 0 => fun _ _ _ => none
  | n + 1 => fun env s O => match c env s O with
    | none => none
    | some (false, s1) => some (.fl (.nx env), s1, O)
    | some (true, s1) => match t env s1 O with
      | some (.fl (.nx e), s2, O2) => mWhileX c t n e s2 O2
      | some (.fl (.ct e), s2, O2) => mWhileX c t n e s2 O2
      | some (.fl (.bk e), s2, O2) => some (.fl (.nx e), s2, O2)
      | some (.fl (.rt d), s2, O2) => some (.fl (.rt d), s2, O2)
      | some (.ex i, s2, O2) => some (.ex i, s2, O2)
      | none => none
def mForLX (g : Dt → Ev → Option Ev) (t : mX) : List Dt → mX
  | [] => fun env s O => some (.fl (.nx env), s, O)
  | d :: ds => fun env s O => match g d env with
    | none => none
    | some e => match t e s O with
      | some (.fl (.nx e), s2, O2) => mForLX g t ds e s2 O2
      | some (.fl (.ct e), s2, O2) => mForLX g t ds e s2 O2
      | some (.fl (.bk e), s2, O2) => some (.fl (.nx e), s2, O2)
      | some (.fl (.rt d), s2, O2) => some (.fl (.rt d), s2, O2)
      | some (.ex i, s2, O2) => some (.ex i, s2, O2)
      | none => none
def mForX (i : mA) (g : Dt → Ev → Option Ev) (t : mX) : mX := fun env s O => match i env s with
  | none => none
  | some (ds, s1) => mForLX g t ds env s1 O
section
variable {X : Cx} {EX : Int → Hp → Prop} {pos : Pos} {mb : mX} {cx : mXB}
theorem sx_while (n : Nat) {c : Expr} {body : List Stmt} (hp : PassesOwn (model X.prog X.w) X.A X.env X.xe) (hc : PT X c (SBX cx)) (hb : PSs X body (SX EX mb)) : PS X (.While c body [] pos) (SX EX (mWhileX cx mb n)) := sim_ps (ps_while hp hc hb) fun E σ H h => by
  obtain ⟨T, G, env, s, O, f, s', O', w, e, o, hm, k⟩ := h
  refine ⟨fun m σ1 H1 => ∃ T1 G1 env1 s1 O1, XT T G H T1 G1 H1 ∧ Wd T1 s1 G1 H1 ∧ EnvOk T1 G1 σ1 env1 ∧ OwnO T1 G1 H1 O1 ∧ σ1.length = σ.length ∧ mWhileX cx mb m env1 s1 O1 = some (f, s', O'), ⟨n, T, G, env, s, O, .refl, w, e, o, rfl, hm⟩, ?_⟩
  rintro m σ1 H1 ⟨T1, G1, env1, s1, O1, x1, w1, eo1, o1, hl1, hm1⟩
  cases m with
  | zero => cases hm1
  | succ m =>
    have k1 := k.later x1 w1 o1
    unfold mWhileX at hm1
    split at hm1
    · cases hm1
    · rename_i s2 h2
      cases hm1
      exact SBX.seq w1 eo1 o1 h2 fun H2 x2 w2 o2 => iteF (k1 T1 G1 H2 x2 w2 o2 σ1 eo1 hl1)
    · rename_i s2 h2
      refine SBX.seq w1 eo1 o1 h2 fun H2 x2 w2 o2 => iteT ⟨_, fun _ _ h => ⟨m, Nat.lt_succ_self m, h⟩, ?_⟩
      have x12 := x1.trans w1 o1 x2
      have k2 := k1.later x2 w2 o2
      split at hm1
      · rename_i e3 s3 O3 h3
        exact SX.seq w2 eo1 o2 h3 fun T3 G3 H3 x3 w3 o3 σ3 eo3 hl3 => ⟨T3, G3, e3, s3, O3, x12.trans w2 o2 x3, w3, eo3, o3, hl3.trans hl1, hm1⟩
      · rename_i e3 s3 O3 h3
        exact SX.seq w2 eo1 o2 h3 fun T3 G3 H3 x3 w3 o3 σ3 eo3 hl3 => ⟨T3, G3, e3, s3, O3, x12.trans w2 o2 x3, w3, eo3, o3, hl3.trans hl1, hm1⟩
      · rename_i e3 s3 O3 h3
        cases hm1
        exact SX.seq w2 eo1 o2 h3 fun T3 G3 H3 x3 w3 o3 σ3 eo3 hl3 => k2 T3 G3 H3 x3 w3 o3 σ3 eo3 (hl3.trans hl1)
      · rename_i d s3 O3 h3
        cases hm1
        exact SX.seq w2 eo1 o2 h3 k2
      · rename_i i s3 O3 h3
        cases hm1
        exact SX.seq w2 eo1 o2 h3 k2
      · cases hm1
theorem sx_for {tg iter : Expr} {body : List Stmt} {mi : mA} {g : Dt → Ev → Option Ev} {ws : List Nat} (hp : PassesOwn (model X.prog X.w) X.A X.env X.xe) (hc : X.calm = true) (hi : PI X tg iter (SI mi)) (hg : PG X tg (SG g ws)) (hb : PSs X body (SX EX mb)) (hs : ∀ x, foldedSetIterable iter X.env x = pure x := by intro _; rfl) :
    PS X (.For tg iter body [] pos) (SX EX (mForX mi g mb)) := sim_ps (ps_for hp hc hi hg hb hs) fun E σ H h => by
  obtain ⟨T, G, env, s, O, f, s', O', w, e, o, hm, k⟩ := h
  unfold mForX at hm
  split at hm
  · cases hm
  · rename_i ds s1 h1
    refine ⟨T, G, env, s, ds, s1, w, e, h1, fun G1 H1 J x1 w1 wk => ?_⟩
    have o1 := o.ext x1
    have k1 := k.later (.of x1) w1 o1
    refine for_it wk (fun i σ2 H2 => ∃ T2 G2 env2 s2 O2, XT T G1 H1 T2 G2 H2 ∧ Wd T2 s2 G2 H2 ∧ EnvOk T2 G2 σ2 env2 ∧ OwnO T2 G2 H2 O2 ∧ σ2.length = σ.length ∧ mForLX g mb (ds.drop i) env2 s2 O2 = some (f, s', O')) ⟨T, G1, env, s1, O, .refl, w1, e.mono x1.up, o1, rfl, hm⟩
      (fun i σ2 H2 _ ⟨_, G2, _, _, _, x2, w2, _⟩ => x2.up.trans w2.sub) ?_ ?_
    · rintro i v σ2 H2 H3 hi2 ⟨T2, G2, env2, s2, O2, x2, w2, eo2, o2, hl2, hm2⟩ y
      obtain ⟨G3, d, hd, x3, w3, dv⟩ := y G2 s2 x2.up (w2.tinEq x2.tin.symm)
      have x3' : Ext T2 G2 H2 G3 H3 := x3.tinEq x2.tin
      have w3' : Wd T2 s2 G3 H3 := w3.tinEq x2.tin
      have o3 := o2.ext x3'
      have dv' : Dv T2 G3 v d := by
        rcases dv with h | ⟨e, p, e1, e2⟩ | ⟨j, p, e1, e2, e3⟩
        · exact .inl h
        · exact .inr (.inl ⟨e, p, x2.tin.trans e1, e2⟩)
        · exact .inr (.inr ⟨j, p, e1, x2.own j p e2, e3⟩)
      rw [drop_get hd] at hm2
      unfold mForLX at hm2
      have x13 := x2.trans w2 o2 (.of x3')
      have k3 := k1.later x13 w3' o3
      split at hm2
      · cases hm2
      · rename_i e4 he4
        refine ⟨T2, G3, env2, s2, d, e4, w3', eo2.mono x3.up, dv', he4, fun σ4 eo4 hl4 _ => ?_⟩
        split at hm2
        · rename_i e5 s5 O5 h5
          exact SX.seq w3' eo4 o3 h5 fun T5 G5 H5 x5 w5 o5 σ5 eo5 hl5 => ⟨T5, G5, e5, s5, O5, x13.trans w3' o3 x5, w5, eo5, o5, (hl5.trans hl4).trans hl2, hm2⟩
        · rename_i e5 s5 O5 h5
          exact SX.seq w3' eo4 o3 h5 fun T5 G5 H5 x5 w5 o5 σ5 eo5 hl5 => ⟨T5, G5, e5, s5, O5, x13.trans w3' o3 x5, w5, eo5, o5, (hl5.trans hl4).trans hl2, hm2⟩
        · rename_i e5 s5 O5 h5
          cases hm2
          exact SX.seq w3' eo4 o3 h5 fun T5 G5 H5 x5 w5 o5 σ5 eo5 hl5 => k3 T5 G5 H5 x5 w5 o5 σ5 eo5 ((hl5.trans hl4).trans hl2)
        · rename_i d5 s5 O5 h5
          cases hm2
          exact SX.seq w3' eo4 o3 h5 k3
        · rename_i i5 s5 O5 h5
          cases hm2
          exact SX.seq w3' eo4 o3 h5 k3
        · cases hm2
    · rintro σ2 H2 ⟨T2, G2, env2, s2, O2, x2, w2, eo2, o2, hl2, hm2⟩
      rw [List.drop_length] at hm2
      cases hm2
      exact k1 T2 G2 H2 x2 w2 o2 σ2 eo2 hl2
end

/-! ### defs that may raise BadText -/
/-- the exception: its class at C, its own dict with the line -/
def EXof (C : Addr) (E : XK) : Int → Hp → Prop := fun i H => ∀ d, H d = none → E (.ref C) (some d) (upd H d (.xd [(("line" : Str), .int i)]))
abbrev MfR := List Dt → Tn → Option ((Dt ⊕ Int) × Tn)
def Res (C : Addr) (T : Tm) (G H : Hp) (Q : VK) (E : XK) : Dt ⊕ Int → Prop
  | .inl d => ∀ v, Dv T G v d → Q v H
  | .inr i => EXof C E i H
def spR (C : Addr) (n : Nat) (f : MfR) : Sp := fun vs H Q E => ∃ T G ds s r s', Wd T s G H ∧ DvAll T G vs ds ∧ vs.length = n ∧ f ds s = some (r, s') ∧ ∀ G' H', Ext T G H G' H' → Wd T s' G' H' → Res C T G' H' Q E r
def clean (ds : List Dt) : Bool := ds.all fun d => (unq d).isNone
def mFnX (n k : Nat) (b : mX) : MfR := fun ds s => if ds.length = k ∧ clean ds = true then match b (initE n ds) s [] with
    | some (.fl (.rt d), s1, _) => if (unq d).isNone = true then some (.inl d, s1) else none
    | some (.fl (.nx _), s1, _) => some (.inl .none, s1)
    | some (.ex i, s1, _) => some (.inr i, s1)
    | _ => none
  else none
/-- without lists of one's own -/
def Tm.bare (T : Tm) : Tm := ⟨T.tin, fun _ => none⟩
theorem own_bare {T : Tm} {G H : Hp} : OwnO T.bare G H [] := ⟨fun _ _ => rfl, fun k ds e => by simp at e, fun _ _ _ e => by cases e⟩
theorem dv_bare {T : Tm} {G : Hp} {v : V} {d : Dt} (h : Dv T G v d) (n : (unq d).isNone = true) : Dv T.bare G v d := by
  rcases h with h | ⟨e, p, e1, e2⟩ | ⟨j, p, e1, e2, e3⟩
  · exact .inl h
  · exact .inr (.inl ⟨e, p, e1, e2⟩)
  · rw [e1, unq_opq] at n
    cases n
theorem dvs_bare {T : Tm} {G : Hp} : ∀ {vs : List V} {ds : List Dt}, DvAll T G vs ds → clean ds = true → DvAll T.bare G vs ds
  | _, _, .nil, _ => .nil
  | _, d :: ds, .cons h t, c => by
    unfold clean at c
    rw [List.all_cons, Bool.and_eq_true] at c
    exact .cons (dv_bare h c.1) (dvs_bare t c.2)
/-- out of the def: its own lists are forgotten -/
theorem dv_out {T T1 : Tm} {G : Hp} {v : V} {d : Dt} (h : Dv T1 G v d) (n : (unq d).isNone = true) (e : T1.tin = T.tin) : Dv T G v d := by
  rcases h with h | ⟨e0, p, e1, e2⟩ | ⟨j, p, e1, e2, e3⟩
  · exact .inl h
  · exact .inr (.inl ⟨e0, p, by rw [← e]; exact e1, e2⟩)
  · rw [e1, unq_opq] at n
    cases n
theorem ext_out {T T1 : Tm} {G H G1 H1 : Hp} (x : XR T.bare G H T1 G1 H1) : Ext T G H G1 H1 := ⟨fun b o e n => x.same b o e n (fun _ z => by cases z), x.up, fun b o e n => x.fresh b o e n (fun _ z => by cases z)⟩
section
variable {P : Program} {w : World} {K : PySem.W.Frag} {mg : Str → Option Value} {base : Heap}
theorem fn_simR {C : Addr} {x qual : Str} {st : Stmt} {f : Addr} {fd : FuncData} {N ps : List Str} {k : Nat} {mb : mX} (F : Fun K x qual st f fd) (S : FnScope N ps (defScope st))
    (hbody : ∀ (cdv : Value) (A : Around) (outer : List Env) (s : Shared) (H : Hp) (E : XK), Room k (A.deeper (envOfC qual (defScope st) s.heap.objs.size f cdv)) → PSs (cxOf (L2.CX P w) P w K mg base N qual (defScope st) f cdv A outer s H E) (defBody st) (SX (EXof C E) mb)) :
    FnOk P w K mg base (L2.CX P w) (k + 1) f fd ps (spR C ps.length (mFnX N.length ps.length mb)) := by
  refine F.okX S (fun vs H Q E h => ?_) (fun cdv A outer s H vs Q E hr h => ⟨SX (EXof C E) mb, hbody cdv A outer s H E hr, ?_⟩)
  · obtain ⟨T, G, ds, s, d, s', w, dv, hl, _⟩ := h
    exact hl
  · obtain ⟨T, G, ds, s, d, s', w, dv, hl, hm, k⟩ := h
    unfold mFnX at hm
    split at hm
    · rename_i hc
      have w0 : Wd T.bare s G H := w.tinEq rfl
      split at hm
      · rename_i d1 s1 O1 h1
        split at hm
        · rename_i hd
          cases hm
          exact SX.seq w0 (envStart (dvs_bare dv hc.2)) own_bare h1 fun T1 G1 H1 v x1 w1 dv1 => k G1 H1 (ext_out x1) (w1.tinEq x1.tin.symm) v (dv_out dv1 hd x1.tin)
        · cases hm
      · rename_i e1 s1 O1 h1
        cases hm
        exact SX.seq w0 (envStart (dvs_bare dv hc.2)) own_bare h1 fun T1 G1 H1 x1 w1 o1 σ1 eo1 hl1 => k G1 H1 (ext_out (.of x1)) (w1.tinEq x1.tin.symm) .non (.inl .non)
      · rename_i i s1 O1 h1
        cases hm
        exact SX.seq w0 (envStart (dvs_bare dv hc.2)) own_bare h1 fun T1 G1 H1 x1 w1 o1 => k G1 H1 (ext_out (.of x1)) (w1.tinEq x1.tin.symm)
      · cases hm
    · cases hm
/-- .. that raises nothing -/
def mFnL (n k : Nat) (b : mX) : Mf := fun ds s => match mFnX n k b ds s with
  | some (.inl d, s1) => some (d, s1)
  | _ => none
theorem fn_simL {x qual : Str} {st : Stmt} {f : Addr} {fd : FuncData} {N ps : List Str} {k : Nat} {mb : mX} (F : Fun K x qual st f fd) (S : FnScope N ps (defScope st))
    (hbody : ∀ (cdv : Value) (A : Around) (outer : List Env) (s : Shared) (H : Hp) (E : XK), Room k (A.deeper (envOfC qual (defScope st) s.heap.objs.size f cdv)) → PSs (cxOf CX0 P w K mg base N qual (defScope st) f cdv A outer s H E).nox (defBody st) (SX (fun _ _ => False) mb)) :
    FnOk P w K mg base CX0 (k + 1) f fd ps (spM ps.length (mFnL N.length ps.length mb)) := by
  refine F.ok S (fun vs H Q E h => ?_) (fun cdv A outer s H vs Q E hr h => ⟨SX (fun _ _ => False) mb, hbody cdv A outer s H E hr, ?_⟩)
  · obtain ⟨T, G, ds, s, d, s', w, dv, hl, _⟩ := h
    exact hl
  · obtain ⟨T, G, ds, s, d, s', w, dv, hl, hm, k⟩ := h
    have e0 : mFnX N.length ps.length mb ds s = some (.inl d, s') := by
      unfold mFnL at hm
      split at hm
      · rename_i q
        cases hm
        exact q
      · cases hm
    unfold mFnX at e0
    split at e0
    · rename_i hc
      have w0 : Wd T.bare s G H := w.tinEq rfl
      split at e0
      · rename_i d1 s1 O1 h1
        split at e0
        · rename_i hd
          cases e0
          exact SX.seq w0 (envStart (dvs_bare dv hc.2)) own_bare h1 fun T1 G1 H1 v x1 w1 dv1 => k G1 H1 v (ext_out x1) (w1.tinEq x1.tin.symm) (dv_out dv1 hd x1.tin)
        · cases e0
      · rename_i e1 s1 O1 h1
        cases e0
        exact SX.seq w0 (envStart (dvs_bare dv hc.2)) own_bare h1 fun T1 G1 H1 x1 w1 o1 σ1 eo1 hl1 => k G1 H1 .non (ext_out (.of x1)) (w1.tinEq x1.tin.symm) (.inl .non)
      · cases e0
      · cases e0
    · cases e0
end
end Md
-- Mx4
set_option Elab.async false
set_option linter.all false
set_option maxRecDepth 100000
set_option maxHeartbeats 4000000
/-! More rules: looks at one's own lists, calls that may raise, stores by place. -/
namespace Md
open PySem PySem.Spec PyProof.Rows L2
set_option autoImplicit false
mutual
/-- no list within -/
def flatT : Dt → Bool
  | .none => true
  | .bool _ => true
  | .int _ => true
  | .str _ => true
  | .tuple ds => flatTs ds
  | .list _ => false
  | .dict _ => false
def flatTs : List Dt → Bool
  | [] => true
  | d :: ds => flatT d && flatTs ds
end
/-- without the lists of one's own -/
noncomputable def Gbare (T : Tm) (G : Hp) : Hp := fun b => open Classical in if (∃ k, T.own k = some b) then none else G b
section
variable {T T1 T2 : Tm} {G H G1 H1 G2 H2 : Hp} {s s1 : Tn} {O O1 : Ow} {v : V} {d : Dt} {σ : L2.St} {env : Ev}
theorem gbare_own {k : Nat} {p : Addr} (e : T.own k = some p) : Gbare T G p = none := if_pos ⟨k, e⟩
theorem gbare_no {b : Addr} (n : ¬ ∃ k, T.own k = some b) : Gbare T G b = G b := if_neg n
theorem gbare_sub : Same (Gbare T G) G := fun b u e => by
  by_cases c : ∃ k, T.own k = some b
  · obtain ⟨k, z⟩ := c
    rw [gbare_own z] at e
    cases e
  · rw [gbare_no c] at e
    exact e
mutual
theorem dq_bare (hl : ∀ k p, T.own k = some p → ∃ xs, G p = some (.lst xs)) : ∀ (d : Dt) (v : V), flatT d = true → Dq G v d → Dq (Gbare T G) v d
  | .none, _, _, h => by
    cases h
    exact .non
  | .bool _, _, _, h => by
    cases h
    exact .bl _
  | .int _, _, _, h => by
    cases h
    exact .int _
  | .str _, _, _, h => by
    cases h
    exact .str _
  | .list _, _, f, _ => by
    unfold flatT at f
    cases f
  | .dict _, _, f, _ => by
    unfold flatT at f
    cases f
  | .tuple ds, _, f, h => by
    unfold flatT at f
    cases h with
    | @tup a _ _ e x =>
      have n : ¬ ∃ k, T.own k = some a := fun ⟨k, z⟩ => by
        obtain ⟨xs, q⟩ := hl k _ z
        rw [e] at q
        cases q
      exact .tup ((gbare_no n).trans e) (dqs_bare hl ds _ f x)
theorem dqs_bare (hl : ∀ k p, T.own k = some p → ∃ xs, G p = some (.lst xs)) : ∀ (ds : List Dt) (vs : List V), flatTs ds = true → DqAll G vs ds → DqAll (Gbare T G) vs ds
  | [], _, _, h => by
    cases h
    exact .nil
  | d :: ds, _, f, h => by
    unfold flatTs at f
    rw [Bool.and_eq_true] at f
    cases h with
    | cons h1 h2 => exact .cons (dq_bare hl d _ f.1 h1) (dqs_bare hl ds _ f.2 h2)
end
theorem flatT_tin : ∀ {d : Dt}, flatT d = true → isTin d = false
  | .none, _ => rfl
  | .bool _, _ => rfl
  | .int _, _ => rfl
  | .str _, _ => rfl
  | .tuple _, _ => rfl
  | .list _, _ => rfl
  | .dict _, h => by
    unfold flatT at h
    cases h
/-- behind a look at the lists -/
theorem looked (w : Wd T s G H) (o : OwnO T G H O) (x : Ext T (Gall T G H) H G1 H1) (w1 : Wd T s1 G1 H1) (hf : flatT d = true) (dv : Dv T G1 v d) : XT T G H T (Gbare T G1) H1 ∧ Wd T s1 (Gbare T G1) H1 ∧ OwnO T (Gbare T G1) H1 O ∧ Dv T (Gbare T G1) v d := by
  have up : Same G (Gbare T G1) := fun b u e => by
    have n : ¬ ∃ k, T.own k = some b := fun ⟨k, z⟩ => by
      obtain ⟨_, _, _, _, h, _⟩ := o.of z
      rw [e] at h
      cases h
    rw [gbare_no n]
    exact x.up b u (gall_up o b u e)
  refine ⟨⟨rfl, fun _ _ e => e, fun _ _ e => .inl e, fun b u e n _ => x.same b u e n, up, fun b u e n => ?_⟩, ⟨fun b u e => w1.sub b u (gbare_sub b u e), fun p z => ⟨(w1.tin p z).1, ?_⟩⟩, ⟨o.no, fun k ds e => ?_, o.inj⟩, .inl (dq_bare (fun k p e => ?_) d v hf (dv.dq (isTin_not (flatT_tin hf))))⟩
  · by_cases c : ∃ k, T.own k = some b
    · obtain ⟨k, z⟩ := c
      exact gbare_own z
    · rw [gbare_no c]
      exact x.fresh b u e (by rw [gall_no c]; exact n)
  · by_cases c : ∃ k, T.own k = some p
    · obtain ⟨k, z2⟩ := c
      exact gbare_own z2
    · rw [gbare_no c]
      exact (w1.tin p z).2
  · obtain ⟨p, xs, h1, h2, h3, h4, h5⟩ := o.at_ k ds e
    exact ⟨p, xs, h1, h2, gbare_own h1, x.same p _ h4 h2, DqAll.mono up _ _ h5⟩
  · obtain ⟨ds, xs, h1, h2, h3, h4, h5⟩ := o.of e
    exact ⟨xs, x.up p _ ((gall_own e).trans h4)⟩
end
def mThaw (m : mE) : mXE := fun env s O => match m (thaw O env) s with
  | some (d, s1) => if flatT d = true then some (d, s1, O) else none
  | none => none
def mSetR (i : Nat) (f : MfR) (a : mA) : mX := fun env s O => match a env s with
  | some (ds, s1) => match f ds s1 with
    | some (.inl d, s2) => some (.fl (.nx (env.set i (some d))), s2, O)
    | some (.inr k, s2) => some (.ex k, s2, O)
    | none => none
  | none => none
def mExtR (i : Nat) (f : MfR) (a : mA) : mX := fun env s O => match env[i]? with
  | some (some q) => match unq q with
    | some j => match a env s with
      | some (ds, s1) => match f ds s1 with
        | some (.inr k, s2) => some (.ex k, s2, O)
        | some (.inl (.list es), s2) => match O[j]? with
          | some xs => if xs.length + es.length ≤ line then some (.fl (.nx env), s2, O.set j (xs ++ es)) else none
          | none => none
        | _ => none
      | none => none
    | none => none
  | _ => none
def mSetIx (i : Nat) (a b : mE) : mX := fun env s O => match a (thaw O env) s with
  | some (d, s1) => if flatT d = true then match env[i]? with
    | some (some q) => match unq q with
      | some k => match b env s1 with
        | some (.int z, s2) => match O[k]? with
          | some xs => match ixN xs.length z with
            | some j => some (.fl (.nx env), s2, O.set k (xs.set j d))
            | none => none
          | none => none
        | _ => none
      | none => none
    | _ => none
    else none
  | none => none
theorem DqAll.set {G : Hp} : ∀ {vs : List V} {ds : List Dt} (j : Nat) {v : V} {d : Dt}, DqAll G vs ds → Dq G v d → DqAll G (vs.set j v) (ds.set j d)
  | _, _, _, _, _, .nil, _ => .nil
  | _, _, 0, _, _, .cons _ t, h => .cons h t
  | _, _, j + 1, _, _, .cons a t, h => .cons a (DqAll.set j t h)
section
variable {X : Cx} {EX : Int → Hp → Prop} {e : Expr} {es : List Expr} {pos : Pos} {me mi mv : mE} {ms : mA}
theorem sex_thaw (h : PE X e (SE me)) : PE X e (SEX (mThaw me)) := sim_pe h fun σ H Q h => by
  obtain ⟨T, G, env, s, O, d, s', O', w, e, o, hm, k⟩ := h
  unfold mThaw at hm
  split at hm
  · rename_i d1 s1 h1
    split at hm
    · rename_i hf
      cases hm
      exact SE.seq (gall_wd w o) (env_thaw o e) h1 fun G1 H1 v x1 w1 _ dv1 => by
        obtain ⟨a1, a2, a3, a4⟩ := looked w o x1 w1 hf dv1
        exact k T _ H1 v a1 a2 a3 a4
    · cases hm
  · cases hm
theorem sx_setIx (i : Nat) {x : Str} {ix : Expr} {p0 p2 : Pos} (hv : PE X e (SE mv)) (hix : PE X ix (SE mi)) (hi : X.N[i]? = some x := by rfl) (hx : Vis X.env.scope x := by first | exact Or.inl rfl | exact Or.inr (Or.inl rfl) | exact Or.inr (Or.inr rfl))
    (hd : (x == ("__debug__" : Str)) = false := by decide) (hcd : (x == ("__classdict__" : Str)) = false := by decide)
    (ha : ∀ v, assign (.Subscript (.Name x p0) ix p2) X.env v = (do
      let ov ← holding [v] (eval (.Name x p0) X.env)
      let iv ← holding [v, ov] (eval ix X.env)
      standAt p2
      holding [v, ov, iv] (setItem ov iv v)
      release [v, ov, iv] []) := by intro _; rfl)
    (hs : swapsWithSole [.Subscript (.Name x p0) ix p2] e pos.line X.env = pure false := by rfl) (hw : swappedStores [.Subscript (.Name x p0) ix p2] e X.env = pure none := by rfl)
    (h1 : (assignEach [.Subscript (.Name x p0) ix p2] X.env).map (·.2) = [assign (.Subscript (.Name x p0) ix p2) X.env] := by rfl) : PS X (.Assign [.Subscript (.Name x p0) ix p2] e pos) (SX EX (mSetIx i mv mi)) :=
  sim_ps (ps_asg hv (pg_sub (pe_var hi hx hd hcd) hix set_list ha) hs hw h1) fun E σ H h => by
    obtain ⟨T, G, env, s, O, f, s', O', w, e, o, hm, k⟩ := h
    unfold mSetIx at hm
    split at hm
    · rename_i d s1 q1
      split at hm
      · rename_i hf
        split at hm
        · rename_i q hq
          split at hm
          · rename_i kk hk
            have e2 := unq_some hk
            subst e2
            split at hm
            · rename_i z s2 q2
              split at hm
              · rename_i ds hds
                split at hm
                · rename_i j hj
                  cases hm
                  refine SE.seq (gall_wd w o) (env_thaw o e) q1 fun G1 H1 v x1 w1 _ dv1 => ?_
                  obtain ⟨a1, a2, a3, a4⟩ := looked w o x1 w1 hf dv1
                  have e1 := e.xt a1
                  obtain ⟨u, hu1, hu2⟩ := e1.at_ i _ hq
                  obtain ⟨p, hp, rfl⟩ := hu2.own_
                  refine ⟨_, hu1, SE.seq a2 e1 q2 fun G2 H2 y x2 w2 _ dv2 => ?_⟩
                  have o2 := a3.ext x2
                  obtain ⟨ds', xs, b1, b2, b3, b4, b5⟩ := o2.of hp
                  rw [hds] at b1
                  cases b1
                  have ey := dv2.int_
                  subst ey
                  obtain ⟨c1, c2, c3⟩ := own_write w2 o2 hp (b5.set j (Dq.mono x2.up _ _ (a4.dq (isTin_not (flatT_tin hf)))))
                  exact ⟨p, xs, z, j, rfl, rfl, b4, by rw [b5.length]; exact hj, k T _ _ ((a1.trans a2 a3 (.of x2)).trans w2 o2 c1) c2 c3 σ ((e1.mono x2.up)) rfl⟩
                · cases hm
              · cases hm
            · cases hm
          · cases hm
        · cases hm
      · cases hm
    · cases hm
end
section
variable {X : Cx} {C : Addr} {E : XK} {e : Expr} {es : List Expr} {pos cpos : Pos} {ms : mA}
/-- a call that may raise, its value stored -/
theorem sx_setR (i : Nat) {y : Str} {pos' : Pos} {x : Str} {p : Pos} {CX : CXT} {k n : Nat} {f : Addr} {fd : FuncData} {ps : List Str} {mf : MfR} (hN : X.N.Nodup) (F : FnOk X.prog X.w X.K X.mg X.base CX k f fd ps (spR C n mf)) (hr : Room k X.A) (hm : X.mg x = some (.ref f)) (hk : PySem.W.keepIn X.K (.ref f) = true)
    (hb : Binds X.K fd ps []) (hx : Passes CX X E) (hf : ∀ ds s r, mf ds s = some r → ds.length = n) (ha : PA X (e :: es) (SA ms)) (hg : Gl X x := by rfl) (hdb : (x == ("__debug__" : Str)) = false := by decide)
    (hi : X.N[i]? = some y := by rfl) (hy : Loc X.env.scope y := by first | exact Or.inl rfl | exact Or.inr rfl) (hs : swapsWith (.Call (.Name x p) (e :: es) [] cpos) (some (.Name y pos')) pos.line X.env = pure false := by rfl)
    (hfn : X.fn y = true ∨ X.env.scope.names.lookup y = some .local := by first | exact .inl rfl | exact .inr rfl | assumption)
    (he : starEach (e :: es) X.env = (false, eval e X.env) :: starEach es X.env := by rfl) (hpl : (backTo cpos (starEach es X.env)).any (·.1) = false := by rfl) :
    PS X (.Assign [.Name y pos'] (.Call (.Name x p) (e :: es) [] cpos) pos) (SX (EXof C E) (mSetR i mf ms)) := sim_ps (ps_set hN hi hy (pe_call F hr hg hm hk hb .nil hx ha hdb he hpl) hs hfn) fun D σ H h => by
  obtain ⟨T, G, env, s, O, f, s', O', w, e, o, hm, k⟩ := h
  unfold mSetR at hm
  split at hm
  · rename_i ds s1 h1
    refine SA.seq w e h1 fun G1 H1 v x1 w1 e1 dv1 => ?_
    rw [List.append_nil]
    have o1 := o.ext x1
    split at hm
    · rename_i d s2 h2
      cases hm
      exact ⟨T, G1, ds, s1, _, s', w1, dv1, by rw [dv1.len]; exact hf _ _ _ h2, h2, fun G2 H2 x2 w2 u du => k T G2 H2 ((XT.of x1).trans w1 o1 (.of x2)) w2 (o1.ext x2) _ ((e1.mono x2.up).set i du) (List.length_set ..)⟩
    · rename_i j s2 h2
      cases hm
      exact ⟨T, G1, ds, s1, _, s', w1, dv1, by rw [dv1.len]; exact hf _ _ _ h2, h2, fun G2 H2 x2 w2 => k T G2 H2 ((XT.of x1).trans w1 o1 (.of x2)) w2 (o1.ext x2)⟩
    · cases hm
  · cases hm
/-- found.extend(f(..)), f may raise -/
theorem sx_extR (i : Nat) {y : Str} {p0 apos epos : Pos} {x : Str} {p : Pos} {CX : CXT} {k n : Nat} {f : Addr} {fd : FuncData} {ps : List Str} {mf : MfR} (F : FnOk X.prog X.w X.K X.mg X.base CX k f fd ps (spR C n mf)) (hr : Room k X.A) (hm : X.mg x = some (.ref f)) (hk : PySem.W.keepIn X.K (.ref f) = true)
    (hb : Binds X.K fd ps []) (hx : Passes CX X E) (hf : ∀ ds s r, mf ds s = some r → ds.length = n) (ha : PA X (e :: es) (SA ms)) (hg : Gl X x := by rfl) (hdb : (x == ("__debug__" : Str)) = false := by decide)
    (hi : X.N[i]? = some y := by rfl) (hv : Vis X.env.scope y := by first | exact Or.inl rfl | exact Or.inr (Or.inl rfl) | exact Or.inr (Or.inr rfl)) (hd : (y == ("__debug__" : Str)) = false := by decide) (hcd : (y == ("__classdict__" : Str)) = false := by decide)
    (he : starEach (e :: es) X.env = (false, eval e X.env) :: starEach es X.env := by rfl) (hpl : (backTo cpos (starEach es X.env)).any (·.1) = false := by rfl)
    (hfew : ((backTo epos (starEach [Expr.Call (.Name x p) (e :: es) [] cpos] X.env)).all (fun x => !x.1) && (backToKw epos (keywordEach [] X.env)).all (fun x => x.1.isSome)
      && decide ([Expr.Call (.Name x p) (e :: es) [] cpos].length + ([] : List Keyword).length + (if ([] : List Keyword).isEmpty then 0 else 1) < 30)) = true := by rfl)
    (hline : (apos.endLine == epos.line) = true := by rfl) (hs : starEach [Expr.Call (.Name x p) (e :: es) [] cpos] X.env = (false, eval (.Call (.Name x p) (e :: es) [] cpos) X.env) :: starEach [] X.env := by rfl) (hbase : attributeBase (.Name y p0) "extend" X.env (eval (.Name y p0) X.env) = eval (.Name y p0) X.env := by rfl)
    (hsw : swapsWith (.Call (.Attribute (.Name y p0) "extend" apos) [.Call (.Name x p) (e :: es) [] cpos] [] epos) none pos.line X.env = pure false := by rfl) :
    PS X (.Expr (.Call (.Attribute (.Name y p0) "extend" apos) [.Call (.Name x p) (e :: es) [] cpos] [] epos) pos) (SX (EXof C E) (mExtR i mf ms)) :=
  sim_ps (ps_expr (pe_bm PySem.F.plainAttrs_list PySem.F.slot_list_extend PySem.F.type_list_extend mt_extend (pe_var hi hv hd hcd) (pa_cons (pe_call F hr hg hm hk hb .nil hx ha hdb he hpl) pa_nil hs) hbase hfew hline hs rfl) hsw) fun D σ H h => by
    obtain ⟨T, G, env, s, O, f, s', O', w, e, o, hm, k⟩ := h
    unfold mExtR at hm
    split at hm
    · rename_i q hq
      split at hm
      · rename_i j hj
        have e2 := unq_some hj
        subst e2
        obtain ⟨v, hv1, hv2⟩ := e.at_ i _ hq
        obtain ⟨a, hp, rfl⟩ := hv2.own_
        obtain ⟨ds0, xs0, a1, a2, a3, a4, a5⟩ := o.of hp
        refine ⟨_, hv1, .inl ⟨rfl, xs0, SqL.of a4⟩, ?_⟩
        split at hm
        · rename_i ds s1 h1
          refine SA.seq w e h1 fun G1 H1 v x1 w1 e1 dv1 => ?_
          rw [List.append_nil]
          have o1 := o.ext x1
          split at hm
          · rename_i z s2 h2
            cases hm
            exact ⟨T, G1, ds, s1, _, s', w1, dv1, by rw [dv1.len]; exact hf _ _ _ h2, h2, fun G2 H2 x2 w2 => k T G2 H2 ((XT.of x1).trans w1 o1 (.of x2)) w2 (o1.ext x2)⟩
          · rename_i es2 s2 h2
            rw [a1] at hm
            dsimp only at hm
            split at hm
            · rename_i hc
              cases hm
              refine ⟨T, G1, ds, s1, _, s', w1, dv1, by rw [dv1.len]; exact hf _ _ _ h2, h2, fun G2 H2 x2 w2 u du => ?_⟩
              obtain ⟨b, ys, rfl, g1, g2⟩ := du.lst_
              have o2 := o1.ext x2
              obtain ⟨ds', xs1, b1, b2, b3, b4, b5⟩ := o2.of hp
              rw [a1] at b1
              cases b1
              obtain ⟨c1, c2, c3⟩ := own_write w2 o2 hp (b5.append g2)
              exact ⟨a, b, xs1, ys, rfl, rfl, b4, w2.sub _ _ g1, by rw [b5.length, g2.length, sizeLine_is]; exact hc, k T G2 _ (((XT.of x1).trans w1 o1 (.of x2)).trans w2 o2 c1) c2 c3 σ (e1.mono x2.up) rfl⟩
            · cases hm
          · cases hm
        · cases hm
      · cases hm
    · cases hm
end
theorem passR {P : Program} {w : World} {K : PySem.W.Frag} {mg : Str → Option Value} {base : Heap} {N : List Str} {qual : Str} {scope : Scope} {f : Addr} {cd : Value} {A : Around} {outer : List Env} {s : Shared} {H : Hp} {E : XK} : Passes (L2.CX P w) (cxOf (L2.CX P w) P w K mg base N qual scope f cd A outer s H E) E :=
  passes_call (takes_of rfl rfl rfl rfl) fun _ _ _ _ h => h
end Md
-- Mx5
set_option Elab.async false
set_option linter.all false
set_option maxRecDepth 100000
set_option maxHeartbeats 4000000
/-! The source of draws read and written; abs, **; lists of one's own with items. -/
namespace Md
open PySem PySem.Spec PyProof.Rows L2
set_option autoImplicit false
def dAbs : List Dt → Option Dt
  | [.int i] => some (.int (if i < 0 then -i else i))
  | _ => none
def dPow : Dt → Dt → Option Dt
  | .int i, .int j => if 0 ≤ j ∧ j ≤ 1000000 ∧ i.natAbs < 2 ^ 64 then some (.int (i ^ j.toNat)) else none
  | _, _ => none
def tinAt (s : Tn) : Nat → Int
  | 0 => s.1
  | 1 => s.2.1
  | _ => s.2.2
def tinSet (s : Tn) (z : Int) : Nat → Tn
  | 0 => (z, s.2.1, s.2.2)
  | 1 => (s.1, z, s.2.2)
  | _ => (s.1, s.2.1, z)
def mTin (i j : Nat) : mE := fun env s => match env[i]? with
  | some (some (.dict [])) => some (.int (tinAt s j), s)
  | _ => none
def mSetTin (i j : Nat) (a : mE) : mS := fun env s => match a env s with
  | some (.int z, s1) => match env[i]? with
    | some (some (.dict [])) => some (.nx env, tinSet s1 z j)
    | _ => none
  | _ => none
def mNewL (a : mA) : mXE := fun env s O => match a env s with
  | some (ds, s1) => if ds.any isTin = true ∨ ¬ ds.length ≤ line then none else some (opq O.length, s1, O ++ [ds])
  | none => none
def mOrL (a : mE) (b : mA) : mXE := fun env s O => match a env s with
  | some (.list (d :: ds), s1) => some (opq O.length, s1, O ++ [d :: ds])
  | some (.list [], s1) => mNewL b env s1 O
  | _ => none
theorem OwnO.moreL {T : Tm} {G H : Hp} {s : Tn} {O : Ow} {p : Addr} {xs : List V} {ds : List Dt} (w : Wd T s G H) (o : OwnO T G H O) (hp : H p = none) (hx : DqAll G xs ds) : OwnO (T.more O.length p) G (upd H p (.lst xs)) (O ++ [ds]) where
  no := fun k h => (o.more w hp).no k (by
    rw [List.length_append, List.length_singleton] at h ⊢
    exact h)
  at_ := fun k ds' e => by
    by_cases c : k = O.length
    · rw [c, List.getElem?_append_right (Nat.le_refl _), Nat.sub_self] at e
      simp at e
      subst e
      refine ⟨p, xs, by rw [c]; exact more_same, fun z => ?_, w.free hp, upd_same, hx⟩
      have q := (w.tin p z).1
      rw [hp] at q
      cases q
    · have hk : k < O.length := by
        have h := (List.getElem?_eq_some_iff.mp e).1
        rw [List.length_append, List.length_singleton] at h
        omega
      rw [List.getElem?_append_left hk] at e
      obtain ⟨q, ys, h1, h2, h3, h4, h5⟩ := o.at_ k ds' e
      exact ⟨q, ys, by rw [more_ne c]; exact h1, h2, h3, by rw [upd_ne (ne_of_none h4 hp)]; exact h4, h5⟩
  inj := (o.more w hp).inj
section
variable {X : Cx} {EX : Int → Hp → Prop} {e : Expr} {es : List Expr} {pos : Pos} {me : mE} {ms : mA}
theorem cr_absD : CallR X (.builtin "abs") (rF dAbs) := by
  intro pins s σ H xs us Q I r h
  obtain ⟨T, G, ds, z, st, w, dv, hf, k⟩ := h
  unfold dAbs at hf
  split at hf
  · cases hf
    obtain ⟨x, rfl, h1⟩ := dv1 dv
    exact call_abs pins s σ H _ us Q I r ⟨_, by rw [h1.int_], k.now w (.inl (.int _))⟩
  · cases hf
theorem op_powD : OpR X (binaryOp .Pow) (r2 dPow) := by
  intro pins s σ H x y v u Q I rx ry h
  obtain ⟨T, G, d, e, z, st, w, dx, dy, hf, k⟩ := h
  unfold dPow at hf
  split at hf
  · split at hf
    · rename_i hc
      cases hf
      exact op_pow pins s σ H x y v u Q I rx ry ⟨_, _, dx.int_, dy.int_, hc, k.now w (.inl (.int _))⟩
    · cases hf
  · cases hf
theorem se_tin (i j : Nat) {x : Str} {p0 p1 : Pos} {k0 : Nat} (hj : j < 3) (hi : X.N[i]? = some x := by rfl) (hx : Vis X.env.scope x := by first | exact Or.inl rfl | exact Or.inr (Or.inl rfl) | exact Or.inr (Or.inr rfl))
    (hd : (x == ("__debug__" : Str)) = false := by decide) (hcd : (x == ("__classdict__" : Str)) = false := by decide) : PE X (.Subscript (.Name x p0) (.Constant (.int j) k0 p1) pos) (SE (mTin i j)) := sim_pe (pe_ix ix_list (pe_var hi hx hd hcd) pe_int (fun _ _ => rfl)) fun σ H Q h => by
  obtain ⟨T, G, env, s, z, s', w, e, hm, k⟩ := h
  unfold mTin at hm
  split at hm
  · rename_i hq
    cases hm
    obtain ⟨v, h1, h2⟩ := e.at_ i _ hq
    obtain ⟨p, hp, rfl⟩ := h2.tin_
    refine ⟨_, h1, p, _, j, .int (tinAt s j), rfl, rfl, SqL.of (w.tin p hp).1, ?_, k G H _ .refl w (.inl (.int _))⟩
    match j, hj with
    | 0, _ => rfl
    | 1, _ => rfl
    | 2, _ => rfl
  · cases hm
theorem ss_setTin (i j : Nat) {x : Str} {p0 p1 p2 : Pos} {k0 : Nat} (hj : j < 3) (hv : PE X e (SE me)) (hi : X.N[i]? = some x := by rfl) (hx : Vis X.env.scope x := by first | exact Or.inl rfl | exact Or.inr (Or.inl rfl) | exact Or.inr (Or.inr rfl))
    (hd : (x == ("__debug__" : Str)) = false := by decide) (hcd : (x == ("__classdict__" : Str)) = false := by decide)
    (ha : ∀ v, assign (.Subscript (.Name x p0) (.Constant (.int j) k0 p1) p2) X.env v = (do
      let ov ← holding [v] (eval (.Name x p0) X.env)
      let iv ← holding [v, ov] (eval (.Constant (.int j) k0 p1) X.env)
      standAt p2
      holding [v, ov, iv] (setItem ov iv v)
      release [v, ov, iv] []) := by intro _; rfl)
    (hs : swapsWithSole [.Subscript (.Name x p0) (.Constant (.int j) k0 p1) p2] e pos.line X.env = pure false := by rfl) (hw : swappedStores [.Subscript (.Name x p0) (.Constant (.int j) k0 p1) p2] e X.env = pure none := by rfl)
    (h1 : (assignEach [.Subscript (.Name x p0) (.Constant (.int j) k0 p1) p2] X.env).map (·.2) = [assign (.Subscript (.Name x p0) (.Constant (.int j) k0 p1) p2) X.env] := by rfl) :
    PS X (.Assign [.Subscript (.Name x p0) (.Constant (.int j) k0 p1) p2] e pos) (SS (mSetTin i j me)) :=
  sim_ps (ps_asg hv (pg_sub (pe_var hi hx hd hcd) pe_int set_list ha) hs hw h1) fun E σ H h => by
    obtain ⟨T, G, env, s, f, s', w, e, hm, k⟩ := h
    unfold mSetTin at hm
    split at hm
    · rename_i z s1 q1
      split at hm
      · rename_i hq
        cases hm
        refine SE.seq w e q1 fun G1 H1 v x1 w1 e1 dv1 => ?_
        have ev := dv1.int_
        subst ev
        obtain ⟨u, a1, a2⟩ := e1.at_ i _ hq
        obtain ⟨p, hp, rfl⟩ := a2.tin_
        obtain ⟨b1, b2⟩ := w1.tin p hp
        have fin : ∀ s2 : Tn, [V.int s2.1, .int s2.2.1, .int s2.2.2] = [V.int s1.1, .int s1.2.1, .int s1.2.2].set j (.int z) → s2 = tinSet s1 z j → E.nx σ (upd H1 p (.lst ([V.int s1.1, .int s1.2.1, .int s1.2.2].set j (.int z)))) := fun s2 e2 e3 => by
          subst e3
          rw [← e2]
          refine k G1 _ (x1.trans w1 ⟨fun b o q n => ?_, Same.refl _, fun _ _ _ q => q⟩) ⟨fun b o q => ?_, fun q hq2 => ?_⟩ σ e1 rfl
          · rw [upd_ne fun c => n (by rw [c]; exact hp)]
            exact q
          · have hb : b ≠ p := fun c => by
              rw [c, b2] at q
              cases q
            rw [upd_ne hb]
            exact w1.sub b o q
          · rw [hp] at hq2
            cases hq2
            exact ⟨upd_same, b2⟩
        refine ⟨_, a1, p, _, j, j, rfl, rfl, b1, ?_, ?_⟩
        · match j, hj with
          | 0, _ => rfl
          | 1, _ => rfl
          | 2, _ => rfl
        · refine fin (tinSet s1 z j) ?_ rfl
          match j, hj with
          | 0, _ => rfl
          | 1, _ => rfl
          | 2, _ => rfl
      · cases hm
    · cases hm
theorem sex_newL (h : PA X es (SA ms)) : PE X (.List es pos) (SEX (mNewL ms)) := sim_pe (pe_lst h) fun σ H Q h => by
  obtain ⟨T, G, env, s, O, d, s', O', w, e, o, hm, k⟩ := h
  unfold mNewL at hm
  split at hm
  · rename_i ds s1 h1
    split at hm
    · cases hm
    · rename_i c
      rw [not_or, Classical.not_not] at c
      cases hm
      refine SA.seq w e h1 fun G1 H1 vs x1 w1 e1 dv1 => ⟨by rw [dv1.len, sizeLine_is]; exact c.2, fun p hp => ?_⟩
      have o1 := o.ext x1
      exact k _ _ _ _ ((XT.of x1).trans w1 o1 (XT.more w1 o1 hp _)) (w1.more hp _ _) (o1.moreL w1 hp (dv1.dq (noTin c.1))) (.inr (.inr ⟨_, p, rfl, more_same, rfl⟩))
  · cases hm
/-- list(e) or [..] -/
theorem sex_orL {p pos1 pos2 : Pos} (he : PE X e (SE me)) (hes : PA X es (SA ms)) (hm : X.mg "list" = none) (hc : X.calm = true := by rfl) (hg : Gl X "list" := by rfl) (bl : bootBuiltins "list" = some (.type "list") := by decide +kernel)
    (hs : starEach [e] X.env = (false, eval e X.env) :: starEach [] X.env := by rfl) : PE X (.BoolOp .Or [.Call (.Name "list" p) [e] [] pos1, .List es pos2] pos) (SEX (mOrL me ms)) := by
  have second : PE X (.BoolOp .Or [.List es pos2] pos) (SEX (mNewL ms)) := pe_one (sex_newL hes)
  have first : PE X (.Call (.Name "list" p) [e] [] pos1) _ := pe_callTy call_list_of hg hm bl (sa_cons he sa_nil hs) (by decide) (by decide) hs rfl
  refine ⟨fun pins s σ H Q I h => ?_⟩
  obtain ⟨T, G, env, s0, O, d, s', O', w, e, o, hm, k⟩ := h
  unfold mOrL at hm
  refine BoolOp_or (thn (first.run pins s σ H (fun x H1 => ∃ a G1 s1 xs ds, x = .ref a ∧ Ext T G H G1 H1 ∧ Wd T s1 G1 H1 ∧ EnvOk T G1 σ env ∧ OwnO T G1 H1 O ∧ H1 a = some (.lst xs) ∧ G1 a = none ∧ DqAll G1 xs ds ∧ me env s0 = some (.list ds, s1) ∧
      XT T G H (T.more O.length a) G1 H1 ∧ Wd (T.more O.length a) s1 G1 H1 ∧ OwnO (T.more O.length a) G1 H1 (O ++ [ds])) I ?_) fun v s1 ⟨x, H1, I1, r1, q1⟩ => ?_)
  · have ex : ∃ ds s1, me env s0 = some (.list ds, s1) := by
      split at hm
      · rename_i q
        exact ⟨_, _, q⟩
      · rename_i q
        exact ⟨_, _, q⟩
      · cases hm
    obtain ⟨ds, s1, h1⟩ := ex
    refine SA.seq (d := [.list ds]) w e (show mCons me mNil env s0 = some ([.list ds], s1) by unfold mCons mNil; rw [h1]) fun G1 H1 vs x1 w1 e1 dv1 => ?_
    cases dv1 with
    | cons q1 q2 =>
      cases q2
      obtain ⟨a, ys, rfl, ha, hx⟩ := q1.lst_
      have o1 := o.ext x1
      refine ⟨a, ys, rfl, .inl (SqL.of (w1.sub _ _ ha)), fun l hl => ⟨l, G1, s1, ys, ds, rfl, ?_, ?_, e1, ?_, upd_same, w1.free hl, hx, h1, (XT.of x1).trans w1 o1 (XT.more w1 o1 hl _), w1.more hl _ _, o1.moreL w1 hl hx⟩⟩
      · exact x1.trans w1 ⟨fun b u q _ => by rw [upd_ne (ne_of_none q hl)]; exact q, Same.refl _, fun _ _ _ q => q⟩
      · exact ⟨fun b u q => by rw [upd_ne (ne_of_none (w1.sub b u q) hl)]; exact w1.sub b u q, fun q z => by
          obtain ⟨b1, b2⟩ := w1.tin q z
          exact ⟨by rw [upd_ne (ne_of_none b1 hl)]; exact b1, b2⟩⟩
      · exact o1.ext (G1 := G1) (H1 := upd H1 l (.lst ys)) ⟨fun b u q _ => by rw [upd_ne (ne_of_none q hl)]; exact q, Same.refl _, fun _ _ _ q => q⟩
  · obtain ⟨a, G1, t1, xs, ds, rfl, x1, w1, e1, o1, ha, hga, hx, h1, c1, c2, c3⟩ := q1
    cases r1
    obtain ⟨its, rv, pl, hz⟩ := I1.list (SqL.of (K := X.K) ha)
    refine wpAny_truthy_list pl.isList (by rw [List.size_toArray, ← rv.length]; rw [sizeLine_is] at hz; omega) ?_
    have I2 : Inv X pins σ H1 { s1 with toks := s1.toks + 1 + 1 } := I1.tok _
    rw [h1] at hm
    cases ds with
    | nil =>
      have e0 : xs = [] := List.eq_nil_of_length_eq_zero hx.length
      subst e0
      cases rv
      show wpAny _ _ _ _ _ _
      exact second.run pins _ σ H1 Q I2 ⟨T, G1, env, t1, O, d, s', O', w1, e1, o1, hm, fun T2 G2 H2 v x2 w2 o2 dv => k T2 G2 H2 v ((XT.of x1).trans w1 o1 x2) w2 o2 dv⟩
    | cons d0 ds =>
      cases hm
      cases hx with
      | cons q1 q2 =>
        cases rv with
        | cons r1 r2 =>
          show EP X pins σ Q _ _
          exact ⟨.ref a, H1, I2, rfl, k _ _ _ _ c1 c2 c3 (.inr (.inr ⟨_, a, rfl, more_same, rfl⟩))⟩
end
theorem mFnX_len {n k : Nat} {b : mX} {ds : List Dt} {s : Tn} {r : (Dt ⊕ Int) × Tn} (h : mFnX n k b ds s = some r) : ds.length = k := by
  unfold mFnX at h
  split at h
  · rename_i c
    exact c.1
  · cases h
theorem mFnL_len {n k : Nat} {b : mX} {ds : List Dt} {s : Tn} {r : Dt × Tn} (h : mFnL n k b ds s = some r) : ds.length = k := by
  unfold mFnL at h
  split at h
  · rename_i q
    exact mFnX_len q
  · cases h
end Md
-- Me4
set_option Elab.async false
set_option linter.all false
set_option maxRecDepth 100000
set_option maxHeartbeats 4000000
namespace Md
open PySem PySem.Spec PyProof.Rows L2
set_option autoImplicit false
section
variable {P : Program} {w : World} {K : PySem.W.Frag} {mg : Str → Option Value} {base : Heap}
/-! law_take: slots tin below_so drawn once_so wide_so twice_so; level 1 -/
abbrev N_law_take : List Str := ["_law_tin", "_law_below_so", "_law_drawn", "_law_once_so", "_law_wide_so", "_law_twice_so"]
theorem sc_law_take : FnScope N_law_take ["_law_tin", "_law_below_so"] (defScope s_law_take) := ⟨rfl, rfl, rfl, by decide +kernel, rfl, by decide +kernel, by decide +kernel⟩
abbrev c_law_take : mS := (mSeq (mIfS (mT (m2 dGt (mTin 0 0) (mC (.int 0)))) (mSeq (mAsg (m2 dMod (mF dInt (mCons (mTin 0 0) mNil)) (mVar 1)) (aName 2)) (mSeq (mSetTin 0 0 (m2 dDiv (mTin 0 0) (mVar 1))) (mRet (mVar 2)))) mNext) (mSeq (mSetTin 0 2 (m2 dAdd (mTin 0 2) (mC (.int 1)))) (mSeq (mAsg (m2 dMod (mF dInt (mCons (m2 dMul (m2 dAdd (mTin 0 1) (m2 dMul (mC (.int 48271)) (mTin 0 2))) (m2 dAdd (mC (.int 39373)) (mTin 0 2))) mNil)) (mC (.int 2147483647))) (aName 3)) (mSeq (mAsg (m2 dAdd (m2 dMod (mF dInt (mCons (mVar 3) mNil)) (mC (.int 40009))) (mC (.int 7))) (aName 4)) (mSeq (mAsg (m2 dMod (mF dInt (mCons (m2 dMul (m2 dAdd (m2 dAdd (mVar 3) (mTin 0 2)) (m2 dDiv (mTin 0 1) (mC (.int 1000003)))) (mVar 4)) mNil)) (mC (.int 2147483629))) (aName 5)) (mRet (m2 dMod (mF dInt (mCons (m2 dDiv (m2 dMod (mF dInt (mCons (m2 dAdd (m2 dMul (mVar 5) (mC (.int 48271))) (mVar 3)) mNil)) (mC (.int 2147483587))) (mC (.int 64))) mNil)) (mVar 1))))))))
def m_law_take : Mf := mFn 6 2 c_law_take
theorem len_law_take {ds : List Dt} {s : Tn} {r : Dt × Tn} (h : m_law_take ds s = some r) : ds.length = 2 := mFn_len h
theorem ok_law_take (T : Tx K mg) : FnOk P w K mg base CX0 1 T.a_law_take T.d_law_take ["_law_tin", "_law_below_so"] (spM 2 m_law_take) := fn_sim T.F_law_take sc_law_take fun cdv A outer s H E hr => by
  exact (sss_cons (ss_if (st_cmp op_gtD (se_tin 0 0 (by decide)) se_int) (sss_cons (ss_set 2 sc_law_take.nd (se_op op_modD (se_callT cr_intD T.n_int bt_int (sa_cons (se_tin 0 0 (by decide)) sa_nil)) (sv 1))) (sss_cons (ss_setTin 0 0 (by decide) (se_op op_divD (se_tin 0 0 (by decide)) (sv 1))) (sss_one (ss_ret (sv 2))))) sss_nil) (sss_cons (ss_setTin 0 2 (by decide) (se_op op_addD (se_tin 0 2 (by decide)) se_int)) (sss_cons (ss_set 3 sc_law_take.nd (se_op op_modD (se_callT cr_intD T.n_int bt_int (sa_cons (se_op op_mulD (se_op op_addD (se_tin 0 1 (by decide)) (se_op op_mulD se_int (se_tin 0 2 (by decide)))) (se_op op_addD se_int (se_tin 0 2 (by decide)))) sa_nil)) se_int)) (sss_cons (ss_set 4 sc_law_take.nd (se_op op_addD (se_op op_modD (se_callT cr_intD T.n_int bt_int (sa_cons (sv 3) sa_nil)) se_int) se_int)) (sss_cons (ss_set 5 sc_law_take.nd (se_op op_modD (se_callT cr_intD T.n_int bt_int (sa_cons (se_op op_mulD (se_op op_addD (se_op op_addD (sv 3) (se_tin 0 2 (by decide))) (se_op op_divD (se_tin 0 1 (by decide)) se_int)) (sv 4)) sa_nil)) se_int)) (sss_one (ss_ret (se_op op_modD (se_callT cr_intD T.n_int bt_int (sa_cons (se_op op_divD (se_op op_modD (se_callT cr_intD T.n_int bt_int (sa_cons (se_op op_addD (se_op op_mulD (sv 5) se_int) (sv 3)) sa_nil)) se_int) se_int) sa_nil)) (sv 1)))))))))
/-! law_of: slots tin goods_so; level 2 -/
abbrev N_law_of : List Str := ["_law_tin", "_law_goods_so"]
theorem sc_law_of : FnScope N_law_of ["_law_tin", "_law_goods_so"] (defScope s_law_of) := ⟨rfl, rfl, rfl, by decide +kernel, rfl, by decide +kernel, by decide +kernel⟩
abbrev c_law_of : mS := (mRet (m2 dIx (mVar 1) (mCall m_law_take (mCons (mVar 0) (mCons (mF dLen (mCons (mVar 1) mNil)) mNil)))))
def m_law_of : Mf := mFn 2 2 c_law_of
theorem len_law_of {ds : List Dt} {s : Tn} {r : Dt × Tn} (h : m_law_of ds s = some r) : ds.length = 2 := mFn_len h
theorem ok_law_of (T : Tx K mg) : FnOk P w K mg base CX0 2 T.a_law_of T.d_law_of ["_law_tin", "_law_goods_so"] (spM 2 m_law_of) := fn_sim T.F_law_of sc_law_of fun cdv A outer s H E hr => by
  exact (sss_one (ss_ret (se_ix ix_D (sv 1) (se_call (ok_law_take T) (hr.mono (by decide)) T.g_law_take T.F_law_take.kp (b_law_take T.F_law_take) pass0 (fun _ _ _ h => len_law_take h) (sa_cons (sv 0) (sa_cons (se_callB cr_len T.n_len bt_len (sa_cons (sv 1) sa_nil)) sa_nil))))))
/-! law_ground: slots tin own goods_so a b c d x y its; level 3 -/
abbrev N_law_ground : List Str := ["_law_tin", "_law_own", "_law_goods_so", "_law_a", "_law_b", "_law_c", "_law_d", "_law_x", "_law_y", "_law_its"]
theorem sc_law_ground : FnScope N_law_ground ["_law_tin"] (defScope s_law_ground) := ⟨rfl, rfl, rfl, by decide +kernel, rfl, by decide +kernel, by decide +kernel⟩
abbrev c_law_ground : mS := (mSeq (mAsg (mF dList (mCons (mCall m_law_of (mCons (mVar 0) (mCons (mCall m_law_grounds mNil) mNil))) mNil)) (aName 1)) (mSeq (mAsg (mF dLst (mCons (mF dTup (mCons (mC (.int 1)) (mCons (mC (.int 0)) (mCons (mC (.int 0)) (mCons (mC (.int 1)) mNil))))) (mCons (mF dTup (mCons (mC (.int 1)) (mCons (mC (.int 1)) (mCons (mC (.int 0)) (mCons (mC (.int 1)) mNil))))) (mCons (mF dTup (mCons (mC (.int 1)) (mCons (mC (.int 0)) (mCons (m1 dNeg (mC (.int 1))) (mCons (mC (.int 1)) mNil))))) (mCons (mF dTup (mCons (mC (.int 0)) (mCons (mC (.int 1)) (mCons (mC (.int 1)) (mCons (mC (.int 0)) mNil))))) (mCons (mF dTup (mCons (mC (.int 2)) (mCons (mC (.int 1)) (mCons (mC (.int 1)) (mCons (mC (.int 1)) mNil))))) (mCons (mF dTup (mCons (m1 dNeg (mC (.int 1))) (mCons (mC (.int 0)) (mCons (mC (.int 1)) (mCons (mC (.int 1)) mNil))))) mNil))))))) (aName 2)) (mSeq (mAsg (mCall m_law_of (mCons (mVar 0) (mCons (mVar 2) mNil))) (aTup 4 (aCons (aName 3) (aCons (aName 4) (aCons (aName 5) (aCons (aName 6) aNil)))))) (mSeq (mAsg (mF dTup (mCons (m2 dSub (mCall m_law_take (mCons (mVar 0) (mCons (mC (.int 9)) mNil))) (mC (.int 4))) (mCons (m2 dSub (mCall m_law_take (mCons (mVar 0) (mCons (mC (.int 9)) mNil))) (mC (.int 4))) mNil))) (aTup 2 (aCons (aName 7) (aCons (aName 8) aNil)))) (mRet (mCall m_law_told_round (mCons (mLc (iL (mVar 1)) (aName 9) [9] (mF dTup (mCons (m2 dAdd (m2 dAdd (m2 dMul (mVar 3) (m2 dIx (mVar 9) (mC (.int 0)))) (m2 dMul (mVar 4) (m2 dIx (mVar 9) (mC (.int 1))))) (mVar 7)) (mCons (m2 dAdd (m2 dAdd (m2 dMul (mVar 5) (m2 dIx (mVar 9) (mC (.int 0)))) (m2 dMul (mVar 6) (m2 dIx (mVar 9) (mC (.int 1))))) (mVar 8)) mNil)))) mNil)))))))
def m_law_ground : Mf := mFn 10 1 c_law_ground
theorem len_law_ground {ds : List Dt} {s : Tn} {r : Dt × Tn} (h : m_law_ground ds s = some r) : ds.length = 1 := mFn_len h
theorem ok_law_ground (T : Tx K mg) : FnOk P w K mg base CX0 3 T.a_law_ground T.d_law_ground ["_law_tin"] (spM 1 m_law_ground) := fn_sim T.F_law_ground sc_law_ground fun cdv A outer s H E hr => by
  exact (sss_cons (ss_set 1 sc_law_ground.nd (se_callT cr_listD T.n_list bt_list (sa_cons (se_call (ok_law_of T) (hr.mono (by decide)) T.g_law_of T.F_law_of.kp (b_law_of T.F_law_of) pass0 (fun _ _ _ h => len_law_of h) (sa_cons (sv 0) (sa_cons (se_call0 (ok_law_grounds T) (hr.mono (by decide)) T.g_law_grounds T.F_law_grounds.kp (b_law_grounds T.F_law_grounds) pass0) sa_nil))) sa_nil))) (sss_cons (ss_set 2 sc_law_ground.nd (se_lst (sa_cons (se_tup (sa_cons se_int (sa_cons se_int (sa_cons se_int (sa_cons se_int sa_nil))))) (sa_cons (se_tup (sa_cons se_int (sa_cons se_int (sa_cons se_int (sa_cons se_int sa_nil))))) (sa_cons (se_tup (sa_cons se_int (sa_cons se_int (sa_cons (se_un un_negD se_int) (sa_cons se_int sa_nil))))) (sa_cons (se_tup (sa_cons se_int (sa_cons se_int (sa_cons se_int (sa_cons se_int sa_nil))))) (sa_cons (se_tup (sa_cons se_int (sa_cons se_int (sa_cons se_int (sa_cons se_int sa_nil))))) (sa_cons (se_tup (sa_cons (se_un un_negD se_int) (sa_cons se_int (sa_cons se_int (sa_cons se_int sa_nil))))) sa_nil)))))))) (sss_cons (ss_asg (se_call (ok_law_of T) (hr.mono (by decide)) T.g_law_of T.F_law_of.kp (b_law_of T.F_law_of) pass0 (fun _ _ _ h => len_law_of h) (sa_cons (sv 0) (sa_cons (sv 2) sa_nil))) (sg_tup rfl (sgs_cons (sg_name 3 sc_law_ground.nd rfl (by first | exact Or.inl rfl | exact Or.inr rfl)) (sgs_cons (sg_name 4 sc_law_ground.nd rfl (by first | exact Or.inl rfl | exact Or.inr rfl)) (sgs_cons (sg_name 5 sc_law_ground.nd rfl (by first | exact Or.inl rfl | exact Or.inr rfl)) (sgs_cons (sg_name 6 sc_law_ground.nd rfl (by first | exact Or.inl rfl | exact Or.inr rfl)) sgs_nil)))))) (sss_cons (ss_asg (se_tup (sa_cons (se_op op_subD (se_call (ok_law_take T) (hr.mono (by decide)) T.g_law_take T.F_law_take.kp (b_law_take T.F_law_take) pass0 (fun _ _ _ h => len_law_take h) (sa_cons (sv 0) (sa_cons se_int sa_nil))) se_int) (sa_cons (se_op op_subD (se_call (ok_law_take T) (hr.mono (by decide)) T.g_law_take T.F_law_take.kp (b_law_take T.F_law_take) pass0 (fun _ _ _ h => len_law_take h) (sa_cons (sv 0) (sa_cons se_int sa_nil))) se_int) sa_nil))) (sg_tup rfl (sgs_cons (sg_name 7 sc_law_ground.nd rfl (by first | exact Or.inl rfl | exact Or.inr rfl)) (sgs_cons (sg_name 8 sc_law_ground.nd rfl (by first | exact Or.inl rfl | exact Or.inr rfl)) sgs_nil)))) (sss_one (ss_ret (se_call (ok_law_told_round T) (hr.mono (by decide)) T.g_law_told_round T.F_law_told_round.kp (b_law_told_round T.F_law_told_round) pass0 (fun _ _ _ h => len_law_told_round h) (sa_cons (se_lc (own := [("_law_its", 9)]) sc_law_ground.nd (si_list (sv 1)) (blkOk_by (N := N_law_ground) (sc := defScope s_law_ground) (by decide +kernel)) (fun _ _ _ _ _ => (sg_name 9 sc_law_ground.nd rfl (by first | exact Or.inl rfl | exact Or.inr rfl))) (fun _ _ _ _ _ => (se_tup (sa_cons (se_op op_addD (se_op op_addD (se_op op_mulD (sv 3) (se_ix ix_D (sv 9) se_int)) (se_op op_mulD (sv 4) (se_ix ix_D (sv 9) se_int))) (sv 7)) (sa_cons (se_op op_addD (se_op op_addD (se_op op_mulD (sv 5) (se_ix ix_D (sv 9) se_int)) (se_op op_mulD (sv 6) (se_ix ix_D (sv 9) se_int))) (sv 8)) sa_nil))))) sa_nil))))))))
/-! law_any_brink: slots tin one step_so; level 3 -/
abbrev N_law_any_brink : List Str := ["_law_tin", "_law_one", "_law_step_so"]
theorem sc_law_any_brink : FnScope N_law_any_brink ["_law_tin"] (defScope s_law_any_brink) := ⟨rfl, rfl, rfl, by decide +kernel, rfl, by decide +kernel, by decide +kernel⟩
abbrev c_law_any_brink : mS := (mSeq (mAsg (mF dTup (mCons (m2 dSub (mCall m_law_take (mCons (mVar 0) (mCons (mC (.int 13)) mNil))) (mC (.int 6))) (mCons (m2 dSub (mCall m_law_take (mCons (mVar 0) (mCons (mC (.int 13)) mNil))) (mC (.int 6))) mNil))) (aName 1)) (mSeq (mAsg (mCall m_law_of (mCons (mVar 0) (mCons (mF dLst (mCons (mF dTup (mCons (mC (.int 1)) (mCons (mC (.int 0)) mNil))) (mCons (mF dTup (mCons (mC (.int 0)) (mCons (mC (.int 1)) mNil))) (mCons (mF dTup (mCons (mC (.int 1)) (mCons (mC (.int 1)) mNil))) (mCons (mF dTup (mCons (mC (.int 1)) (mCons (m1 dNeg (mC (.int 1))) mNil))) (mCons (mF dTup (mCons (mC (.int 2)) (mCons (mC (.int 1)) mNil))) (mCons (mF dTup (mCons (mC (.int 3)) (mCons (m1 dNeg (mC (.int 5))) mNil))) (mCons (mF dTup (mCons (mC (.int 1)) (mCons (mC (.int 7)) mNil))) mNil)))))))) mNil))) (aName 2)) (mRet (mF dTup (mCons (mVar 1) (mCons (mF dTup (mCons (m2 dAdd (m2 dIx (mVar 1) (mC (.int 0))) (m2 dIx (mVar 2) (mC (.int 0)))) (mCons (m2 dAdd (m2 dIx (mVar 1) (mC (.int 1))) (m2 dIx (mVar 2) (mC (.int 1)))) mNil))) mNil))))))
def m_law_any_brink : Mf := mFn 3 1 c_law_any_brink
theorem len_law_any_brink {ds : List Dt} {s : Tn} {r : Dt × Tn} (h : m_law_any_brink ds s = some r) : ds.length = 1 := mFn_len h
theorem ok_law_any_brink (T : Tx K mg) : FnOk P w K mg base CX0 3 T.a_law_any_brink T.d_law_any_brink ["_law_tin"] (spM 1 m_law_any_brink) := fn_sim T.F_law_any_brink sc_law_any_brink fun cdv A outer s H E hr => by
  exact (sss_cons (ss_set 1 sc_law_any_brink.nd (se_tup (sa_cons (se_op op_subD (se_call (ok_law_take T) (hr.mono (by decide)) T.g_law_take T.F_law_take.kp (b_law_take T.F_law_take) pass0 (fun _ _ _ h => len_law_take h) (sa_cons (sv 0) (sa_cons se_int sa_nil))) se_int) (sa_cons (se_op op_subD (se_call (ok_law_take T) (hr.mono (by decide)) T.g_law_take T.F_law_take.kp (b_law_take T.F_law_take) pass0 (fun _ _ _ h => len_law_take h) (sa_cons (sv 0) (sa_cons se_int sa_nil))) se_int) sa_nil)))) (sss_cons (ss_set 2 sc_law_any_brink.nd (se_call (ok_law_of T) (hr.mono (by decide)) T.g_law_of T.F_law_of.kp (b_law_of T.F_law_of) pass0 (fun _ _ _ h => len_law_of h) (sa_cons (sv 0) (sa_cons (se_lst (sa_cons (se_tup (sa_cons se_int (sa_cons se_int sa_nil))) (sa_cons (se_tup (sa_cons se_int (sa_cons se_int sa_nil))) (sa_cons (se_tup (sa_cons se_int (sa_cons se_int sa_nil))) (sa_cons (se_tup (sa_cons se_int (sa_cons (se_un un_negD se_int) sa_nil))) (sa_cons (se_tup (sa_cons se_int (sa_cons se_int sa_nil))) (sa_cons (se_tup (sa_cons se_int (sa_cons (se_un un_negD se_int) sa_nil))) (sa_cons (se_tup (sa_cons se_int (sa_cons se_int sa_nil))) sa_nil)))))))) sa_nil)))) (sss_one (ss_ret (se_tup (sa_cons (sv 1) (sa_cons (se_tup (sa_cons (se_op op_addD (se_ix ix_D (sv 1) se_int) (se_ix ix_D (sv 2) se_int)) (sa_cons (se_op op_addD (se_ix ix_D (sv 1) se_int) (se_ix ix_D (sv 2) se_int)) sa_nil))) sa_nil)))))))
/-! law_any_half: slots tin x y; level 2 -/
abbrev N_law_any_half : List Str := ["_law_tin", "_law_x", "_law_y"]
theorem sc_law_any_half : FnScope N_law_any_half ["_law_tin"] (defScope s_law_any_half) := ⟨rfl, rfl, rfl, by decide +kernel, rfl, by decide +kernel, by decide +kernel⟩
abbrev c_law_any_half : mS := (mSeq (mPar 1 2 (mCons (m2 dSub (mCall m_law_take (mCons (mVar 0) (mCons (mC (.int 25)) mNil))) (mC (.int 12))) (mCons (m2 dSub (mCall m_law_take (mCons (mVar 0) (mCons (mC (.int 25)) mNil))) (mC (.int 12))) mNil))) (mRet (mIf (mBor (mT (m2 dEq (m2 dMod (mF dInt (mCons (mVar 1) mNil)) (mC (.int 2))) (mC (.int 1)))) (mT (m2 dEq (m2 dMod (mF dInt (mCons (mVar 2) mNil)) (mC (.int 2))) (mC (.int 1))))) (mF dTup (mCons (mVar 1) (mCons (mVar 2) mNil))) (mF dTup (mCons (m2 dAdd (mVar 1) (mC (.int 1))) (mCons (mVar 2) mNil))))))
def m_law_any_half : Mf := mFn 3 1 c_law_any_half
theorem len_law_any_half {ds : List Dt} {s : Tn} {r : Dt × Tn} (h : m_law_any_half ds s = some r) : ds.length = 1 := mFn_len h
theorem ok_law_any_half (T : Tx K mg) : FnOk P w K mg base CX0 2 T.a_law_any_half T.d_law_any_half ["_law_tin"] (spM 1 m_law_any_half) := fn_sim T.F_law_any_half sc_law_any_half fun cdv A outer s H E hr => by
  exact (sss_cons (ss_par 1 2 sc_law_any_half.nd (sa_cons (se_op op_subD (se_call (ok_law_take T) (hr.mono (by decide)) T.g_law_take T.F_law_take.kp (b_law_take T.F_law_take) pass0 (fun _ _ _ h => len_law_take h) (sa_cons (sv 0) (sa_cons se_int sa_nil))) se_int) (sa_cons (se_op op_subD (se_call (ok_law_take T) (hr.mono (by decide)) T.g_law_take T.F_law_take.kp (b_law_take T.F_law_take) pass0 (fun _ _ _ h => len_law_take h) (sa_cons (sv 0) (sa_cons se_int sa_nil))) se_int) sa_nil))) (sss_one (ss_ret (se_ifExp (st_w (sw_or (st_cmp (op_eqQ hr.units) (se_op op_modD (se_callT cr_intD T.n_int bt_int (sa_cons (sv 1) sa_nil)) se_int) se_int) (sw_oneO (st_cmp (op_eqQ hr.units) (se_op op_modD (se_callT cr_intD T.n_int bt_int (sa_cons (sv 2) sa_nil)) se_int) se_int)))) (se_tup (sa_cons (sv 1) (sa_cons (sv 2) sa_nil))) (se_tup (sa_cons (se_op op_addD (sv 1) se_int) (sa_cons (sv 2) sa_nil)))))))
/-! law_sheet: slots tin brinks_so lap; level 4 -/
abbrev N_law_sheet : List Str := ["_law_tin", "_law_brinks_so", "_law_lap"]
theorem sc_law_sheet : FnScope N_law_sheet ["_law_tin"] (defScope s_law_sheet) := ⟨rfl, rfl, rfl, by decide +kernel, rfl, by decide +kernel, by decide +kernel⟩
abbrev c_law_sheet : mS := (mSeq (mAsg (mF dTuple (mCons (mF dSortSet (mCons (mLc (iRng1 (mCons (mCall m_law_take (mCons (mVar 0) (mCons (mC (.int 5)) mNil))) mNil)) (aName 2) [2] (mCall m_law_any_brink (mCons (mVar 0) mNil))) mNil)) mNil)) (aName 1)) (mRet (mF dTup (mCons (mCall m_law_ground (mCons (mVar 0) mNil)) (mCons (mVar 1) (mCons (mF dTuple (mCons (mLc (iRng1 (mCons (mCall m_law_take (mCons (mVar 0) (mCons (mC (.int 4)) mNil))) mNil)) (aName 2) [2] (mCall m_law_any_half (mCons (mVar 0) mNil))) mNil)) mNil))))))
def m_law_sheet : Mf := mFn 3 1 c_law_sheet
theorem len_law_sheet {ds : List Dt} {s : Tn} {r : Dt × Tn} (h : m_law_sheet ds s = some r) : ds.length = 1 := mFn_len h
theorem ok_law_sheet (T : Tx K mg) : FnOk P w K mg base CX0 4 T.a_law_sheet T.d_law_sheet ["_law_tin"] (spM 1 m_law_sheet) := fn_sim T.F_law_sheet sc_law_sheet fun cdv A outer s H E hr => by
  exact (sss_cons (ss_set 1 sc_law_sheet.nd (se_callT cr_tupleD T.n_tuple bt_tuple (sa_cons (se_sortSet hr.units T.n_sorted T.n_set (sa_cons (se_lc (own := [("_law_lap", 2)]) sc_law_sheet.nd (si_rng1 T.n_range (sa_cons (se_call (ok_law_take T) (hr.mono (by decide)) T.g_law_take T.F_law_take.kp (b_law_take T.F_law_take) pass0 (fun _ _ _ h => len_law_take h) (sa_cons (sv 0) (sa_cons se_int sa_nil))) sa_nil)) (blkOk_by (N := N_law_sheet) (sc := defScope s_law_sheet) (by decide +kernel)) (fun _ _ _ _ _ => (sg_name 2 sc_law_sheet.nd rfl (by first | exact Or.inl rfl | exact Or.inr rfl))) (fun _ _ _ _ _ => (se_call (ok_law_any_brink T) (hr.mono (by decide)) T.g_law_any_brink T.F_law_any_brink.kp (b_law_any_brink T.F_law_any_brink) pass0 (fun _ _ _ h => len_law_any_brink h) (sa_cons (sv 0) sa_nil)))) sa_nil)) sa_nil))) (sss_one (ss_ret (se_tup (sa_cons (se_call (ok_law_ground T) (hr.mono (by decide)) T.g_law_ground T.F_law_ground.kp (b_law_ground T.F_law_ground) pass0 (fun _ _ _ h => len_law_ground h) (sa_cons (sv 0) sa_nil)) (sa_cons (sv 1) (sa_cons (se_callT cr_tupleD T.n_tuple bt_tuple (sa_cons (se_lc (own := [("_law_lap", 2)]) sc_law_sheet.nd (si_rng1 T.n_range (sa_cons (se_call (ok_law_take T) (hr.mono (by decide)) T.g_law_take T.F_law_take.kp (b_law_take T.F_law_take) pass0 (fun _ _ _ h => len_law_take h) (sa_cons (sv 0) (sa_cons se_int sa_nil))) sa_nil)) (blkOk_by (N := N_law_sheet) (sc := defScope s_law_sheet) (by decide +kernel)) (fun _ _ _ _ _ => (sg_name 2 sc_law_sheet.nd rfl (by first | exact Or.inl rfl | exact Or.inr rfl))) (fun _ _ _ _ _ => (se_call (ok_law_any_half T) (hr.mono (by decide)) T.g_law_any_half T.F_law_any_half.kp (b_law_any_half T.F_law_any_half) pass0 (fun _ _ _ h => len_law_any_half h) (sa_cons (sv 0) sa_nil)))) sa_nil)) sa_nil)))))))
end
end Md
-- Mr1
set_option Elab.async false
set_option linter.all false
set_option maxRecDepth 100000
set_option maxHeartbeats 4000000
/-! BadText(line): an own error over ValueError whose __init__ says super().__init__(line), then self.line = line. -/
namespace Mr
open PySem PySem.W PySem.Calls PyProof.Rows PySem.HandSPX
set_option autoImplicit false
def clsBody : Stmt → List Stmt
  | .ClassDef (body := b) .. => b
  | _ => []
def sInit : Stmt := (clsBody (Md.top 2)).getD 0 (.Pass ⟨0, 0, 0, 0⟩)
/-- what the written part says of BadText, at C, and of its __init__, at fI -/
structure BadTxt (P : Program) (K : Frag) (mg : Str → Option Value) (C fI : Addr) : Prop where
  gC : mg "BadText" = some (.ref C)
  cls : ∃ nm q N bs bm sn sub ab col dd k0 k1 k2 k3 k5, K.lookup C = some (excClassObj nm q C N bs bm true sn sub ab col dd k0 k1 k2 k3 k5 "ValueError.__new__") ∧ refsVE bm = true
  along : ks_superIn K C C "__init__" = some (some (.builtin "ValueError.__init__"))
  sa : findIn K (.ref C) "__setattr__" = some (some (.builtin "object.__setattr__"))
  ga : findIn K (.ref C) "__getattribute__" = some (some (.builtin "BaseException.__getattribute__"))
  gg : findIn K (.ref C) "__getattr__" = some none
  noN : findIn K (.ref C) "line" = some none
  iC : findIn K (.ref C) "__init__" = some (some (.ref fI))
  tC : typeIn K (.ref fI) = some (.type "function")
  kC : keepIn K (.ref C) = true
  exC : subIn K (.ref C) (.type "BaseException") = some true
  veC : subIn K (.ref C) (.type "ValueError") = some true
  meC : mroIn K C (.ref C) = some true
  tyC : typeIn K (.ref C) = some (.type "type")
  hdC : hasDictIn K C = true
  te : exmOne K (.ref C) (.ref C) = some true
  opq : nsIn K cStatics "thirdparty.any" = some none
  sup : mg "super" = none
  htop : (P.main.scope.names.lookup ("super" : Str)).isSome = false
  fn : ∃ (oc : Value) (od : Option Addr) (kV doc pm : Value) (an : Option Addr) (ct : Value) (cc cda : Addr) (osl : Array (Option Value)) (ccl : Value) (cdd : Option Addr) (vs : Array Value) (ccs : Array (Option Value)) (file : Str) (tf : Tok) (cl : Value) (cld : Option Addr) (csl : Array (Option Value)),
    K.lookup fI = some ⟨oc, od, .func (ksFn "__init__" "BadText.__init__" (L2.defArgs sInit) (L2.defBody sInit) (L2.defScope sInit) .none kV doc pm an (.ref cda) ct cc), osl⟩ ∧ codeIn K (.ref cda) "BadText.__init__" = true ∧
    K.lookup cda = some ⟨ccl, cdd, .fields vs, ccs⟩ ∧ vs[2]? = some (.str file tf) ∧ ((P.main.file : Str) == file) = true ∧ K.lookup cc = some ⟨cl, cld, .cell (some (.ref C)), csl⟩
/-- what __init__ leaves of a fresh exception at x -/
structure InitEnd (h h' : Heap) (x C dx t1 : Addr) (v : Value) : Prop where
  keep : ∀ b o, b ≠ x → h.get? b = some o → h'.get? b = some o
  obj : h'.get? x = some { cls := .ref C, dict := some dx, data := .fields #[.ref t1, .none, .none, .none, .bool false, .none] }
  dbig : h.objs.size ≤ dx
  dne : dx ≠ x
  ns : h'.Ns1 dx (fun y => if y = "line" then some v else none)
theorem one_size (v : Value) : [v].length ≤ sizeLine := by
  rw [sizeLine_eq]
  exact (by decide : 1 ≤ 16777216)
section
variable {prog : Program} {w : World} {A : Around} {E : Value → Shared → Prop} {R : Result → Shared → Prop} {s : Shared} {K : Frag} {mg mb : Str → Option Value} {C fI : Addr}
/-- the bound ValueError.__init__, called -/
theorem call_mw {u e t0 : Addr} {rest : List Value} {Q : Value → Shared → Prop} (X : K.In s.heap) (T : BadTxt prog K mg C fI) (he : s.heap.get? e = some (excO C t0)) (hu : s.heap.get? u = some (kxs_mw "ValueError.__init__" e)) (hrest : rest.length ≤ sizeLine)
    (hq : ∀ h' t1, (∀ b o, b ≠ e → s.heap.get? b = some o → h'.get? b = some o) → h'.get? e = some (excO C t1) → Q .none { s with heap := h' }) : wpAny (model prog w) A (call (.ref u) rest) Q E s := by
  obtain ⟨nm, q, N, bs, bm, sn, sub, ab, col, dd, k0, k1, k2, k3, k5, hC, hbm⟩ := T.cls
  have hC' := X _ _ hC
  obtain ⟨hp, g, d, tk, os⟩ := s
  refine wpAny_call (codeAny_of_tree ?_)
  show wpAny _ A.in1 (callAny (.ref u) ⟨rest, []⟩) _ _ _
  simp only [callAny]
  refine wpAny_bind (wpAny_load hu ?_)
  simp only [kxs_mw, show (Value.type "method-wrapper" == Value.type "method" || Value.type "method-wrapper" == Value.type "builtin_function_or_method" || Value.type "method-wrapper" == Value.type "method-wrapper") = true by decide, if_true]
  refine KFB.if_so (by decide) ?_
  refine wpAny_bind (check_bound_init F.excBase_ValueError.toExcCallFacts hC' he rfl ?_)
  refine wpAny_bind (wpAny_pure (wpAny_pure ?_))
  refine ⟨plainId_quiet F.excBase_ValueError.init.plain _, codeAny_builtin F.excBase_ValueError.initEntry ?_⟩
  exact exc_init_tree (cls := .ref C) (t0 := t0) (dv := none) (c2 := .none) (c3 := .none) (b4 := .bool false) he hrest fun h' k he' _ => hq h' _ k he'
theorem bad_init (T : BadTxt prog K mg C fI) {x t0 : Addr} {v : Value} (X : K.In s.heap) (hlim : s.heap.NoLimit) (hg : s.heap.Ns mainGlobals mg) (hb : s.heap.Ns builtinsNs mb) (hbs : mb "super" = some (.type "super")) (hx : s.heap.get? x = some (excO C t0)) (hnx : K.lookup x = none) (hroom : A.depth < recursionLimit)
    (hq : ∀ h' tk dx t1, InitEnd s.heap h' x C dx t1 v → R (.ok (.ret .none)) { s with heap := h', toks := tk }) :
    codeAny (model prog w) A (.call (.ref fI) ⟨[.ref x, v], []⟩) R s := by
  obtain ⟨oc, od, kV, doc, pm, an, ct, cc, cda, osl, ccl, cdd, vs, ccs, file, tf, cl, cld, csl, ho, hcd, hcda, hvs, hfile, hcell⟩ := T.fn
  obtain ⟨nm, q, N, bs, bm, sn, sub, ab, col, dd, k0, k1, k2, k3, k5, hC, hbm⟩ := T.cls
  have hcl : clsIn K C = some { name := nm, bases := bs, mro := .ref C :: bm, ns := N, qualname := q, hasDict := true, slotNames := sn, subclasses := sub, abstract := ab, collection := col, hasDel := false } := by unfold clsIn; rw [hC] <;> rfl
  refine ks_codeAny_call_defAt (fd := ksFn "__init__" "BadText.__init__" (L2.defArgs sInit) (L2.defBody sInit) (L2.defScope sInit) .none kV doc pm an (.ref cda) ct cc) (body := L2.defBody sInit) (binds := [("self", .ref x), ("line", v)]) hroom (X _ _ ho) rfl hlim (codeRec_of X hcd) rfl (BindsTo.of_eq rfl) (show ∀ y ∈ (L2.defScope sInit).names, y.2 ≠ .cell from by decide +kernel) (fun y hy => ?_) (fun h0 hn k => ?_) rfl rfl rfl
  · show (L2.defScope sInit).names.lookup y.1 = some .local
    rcases List.mem_cons.mp hy with e | hy
    · rw [e]
      rfl
    · rw [List.mem_singleton.mp hy]
      rfl
  have hL : s.heap.objs.size < h0.objs.size := hn.lt
  have hxL : s.heap.objs.size ≠ x := Nat.ne_of_gt (Heap.lt_size hx)
  have X0 : K.In h0 := X.keeps k
  have hx0 := k _ _ hx
  have hC0 := X0 _ _ hC
  generalize hL0 : s.heap.objs.size = L at hn hL hxL ⊢
  have hself : (fun y => ([("self", Value.ref x), ("line", v)] : List (Str × Value)).reverse.lookup y) "self" = some (.ref x) := by rfl
  have hline : (fun y => ([("self", Value.ref x), ("line", v)] : List (Str × Value)).reverse.lookup y) "line" = some v := by rfl
  -- super().__init__(line)
  refine ks_wpAt_execs_cons (ks_wpAt_Expr_any (ks_wpAt_MethodCall ?_))
  refine ks_wpAt_super_base (env := ksEnv "BadText.__init__" (L2.defScope sInit) L fI (.ref cda) cc) rfl rfl (by decide) rfl (X0 _ _ ho) rfl rfl rfl (X0 _ _ hcda) rfl hvs hfile T.htop ?_
  refine ks_loadName_global rfl rfl (loadGlobal_builtin (env := ksEnv "BadText.__init__" (L2.defScope sInit) L fI (.ref cda) cc) (hg.keeps k) T.sup (hb.keeps k) hbs ⟨rfl, ?_⟩)
  refine wpAny_loadName_free rfl rfl rfl ⟨_, X0 _ _ hcell, rfl⟩ ?_
  refine wpAny_loadName_local rfl rfl hn hself ?_
  refine ks_wpAny_isType_cls hC0 rfl ⟨rfl, ?_⟩
  refine ks_wpAny_call_super hC0 rfl hx0 rfl (fun c e => by cases e) (looks_mroIn X0 T.meC) fun h1 e1 k1 => ?_
  have X1 : K.In h1 := X0.keeps k1
  have hx1 := k1 _ _ hx0
  have I1 : InstAt h1 x (excO C t0) C none := ⟨hx1, rfl, rfl, trivial⟩
  have hxC : x ≠ C := fun z => by
    rw [z] at hx1
    have q := X1 _ _ hC
    rw [hx1] at q
    have q2 := congrArg Obj.data (Option.some.inj q)
    cases q2
  have hB : Looks (model prog w) h1 (isInstance (.ref x) (.type "ValueError")) true := I1.type.andThen (looks_subIn X1 T.veC)
  have hal : alongIn K "__init__" (((Value.ref C :: bm).dropWhile (· != .ref C)).drop 1) = some (some (.builtin "ValueError.__init__")) := by
    have q := T.along
    unfold ks_superIn at q
    rw [hcl] at q
    exact q
  refine kxs_getMethod kxs_ValueError e1 (looks_opaque X1 T.opq) (l₀ := .ref C :: bm) (fun A Q E s k q => wpAny_bind ((looks_clsIn X1 hcl) A _ E s k (wpAny_pure q))) rfl X1 hal hB hxC (by decide) ?_
  have k2 : ∀ b o, h1.get? b = some o → (h1.push (kxs_mw "ValueError.__init__" x)).get? b = some o := fun b o e => Heap.get?_push_of_some _ e
  have hu2 : (h1.push (kxs_mw "ValueError.__init__" x)).get? h1.objs.size = some (kxs_mw "ValueError.__init__" x) := Heap.get?_push_at rfl rfl
  generalize h1.push (kxs_mw "ValueError.__init__" x) = h2 at k2 hu2 ⊢
  have X2 : K.In h2 := X1.keeps k2
  have hx2 := k2 _ _ hx1
  have hn2 : h2.Ns L (fun y => ([("self", Value.ref x), ("line", v)] : List (Str × Value)).reverse.lookup y) := hn.keeps fun b o e => k2 b o (k1 b o e)
  refine kxs_callWith (i := "ValueError.__init__") (x := x) rfl (evalArgs_plain (spliced_cons (wpAny_Name (wpAny_loadName_local rfl rfl hn2 hline (spliced_nil ?_))) ))
  refine ⟨hu2, ?_⟩
  refine call_mw (s := { s with heap := h2, toks := _ }) X2 T hx2 hu2 (one_size v) fun h3 t1 k3 hx3 => ?_
  have X3 : K.In h3 := fun a o e => k3 a o (fun z => by rw [z, hnx] at e; cases e) (X2 a o e)
  have hn3 : h3.Ns L (fun y => ([("self", Value.ref x), ("line", v)] : List (Str × Value)).reverse.lookup y) := by
    obtain ⟨oL, es, ep, hoL, r⟩ := hn2
    exact ⟨oL, es, ep, k3 _ _ hxL hoL, r⟩
  -- self.line = line
  show PySem.wpAt _ _ _ (execs _ _) _ _ _
  refine wpAt_of_wpAny (wpAny_execs_cons (plainObj_wpAny_Assign_Attribute ?_))
  refine wpAny_Name (wpAny_loadName_local rfl rfl hn3 hline ?_)
  refine wpAny_Name (wpAny_loadName_local rfl rfl hn3 hself ?_)
  refine set_plain X3 (ox := excO C t1) (od := none) ⟨hx3, rfl, rfl, trivial⟩ T.sa ?_
  refine exc_osa X3 hx3 hcl (show refsVE (.ref C :: bm) = true from hbm) rfl T.noN (fun h4 tk4 dx k4 dn dne hx4 hn4 => ?_)
  show wpAny _ _ (execs _ _) _ _ _
  refine wpAny_execs_nil (hq h4 tk4 dx t1 ⟨fun b o hb' e => k4 b o hb' (k3 b o hb' (k2 b o (k1 b o (k b o e)))), hx4, ?_, dne, hn4⟩)
  have z : L < h3.objs.size := hn3.lt
  rw [hL0]
  exact Nat.le_of_lt (Nat.lt_of_lt_of_le z dn)
end
end Mr
-- Mr2
set_option Elab.async false
set_option linter.all false
set_option maxRecDepth 100000
set_option maxHeartbeats 4000000
/-! raise BadText(e); the error's line. -/
namespace Mr
open PySem PySem.W PySem.Calls PyProof.Rows PySem.HandSPX
set_option autoImplicit false
/-- a made BadText -/
structure OwnMade (h h' : Heap) (e C d : Addr) (v : Value) : Prop where
  keep : ∀ b o, h.get? b = some o → h'.get? b = some o
  new : h.objs.size ≤ e
  obj : ∃ oe vs, h'.get? e = some oe ∧ oe.cls = .ref C ∧ oe.dict = some d ∧ oe.data = .fields vs ∧ vs[1]? = some .none
  dbig : h.objs.size ≤ d
  dne : d ≠ e
  ns : h'.Ns1 d (fun y => if y = "line" then some v else none)
section
variable {prog : Program} {w : World} {A : Around} {E : Value → Shared → Prop} {R : Result → Shared → Prop} {s : Shared} {K : Frag} {mg mb : Str → Option Value} {C fI : Addr}
theorem bad_made (T : BadTxt prog K mg C fI) {v : Value} (X : K.In s.heap) (hlim : s.heap.NoLimit) (hg : s.heap.Ns mainGlobals mg) (hb : s.heap.Ns builtinsNs mb) (hbs : mb "super" = some (.type "super")) (hroom : A.depth + 1 < recursionLimit)
    (hq : ∀ h' tk e d, OwnMade s.heap h' e C d v → R (.ok (.ret (.ref e))) { s with heap := h', toks := tk }) :
    codeAny (model prog w) A (.call (.ref C) ⟨[v], []⟩) R s := by
  obtain ⟨nm, q, N, bs, bm, sn, sub, ab, col, dd, k0, k1, k2, k3, k5, hC, hbm⟩ := T.cls
  obtain ⟨hp, g, dr, tk, os⟩ := s
  have k : ∀ b o, hp.get? b = some o → ((hp.push (kdv_tup [v])).push (excO C hp.objs.size)).get? b = some o := fun b o e => Heap.get?_push_of_some _ (Heap.get?_push_of_some _ e)
  have hget : ((hp.push (kdv_tup [v])).push (excO C hp.objs.size)).get? (hp.objs.size + 1) = some (excO C hp.objs.size) := by heap_get
  have hnx : K.lookup (hp.objs.size + 1) = none := by
    cases e : K.lookup (hp.objs.size + 1) with
    | none => rfl
    | some o =>
      have z : hp.get? (hp.objs.size + 1) = some o := X _ _ e
      exact absurd (Nat.lt_of_succ_lt (Heap.lt_size z)) (Nat.lt_irrefl _)
  refine call_own F.excBase_ValueError (fun X => refsVE_contains X bm hbm) (X _ _ hC) (looks_findIn X T.iC) (fun self => bind_fn X self T.tC) (one_size v) ?_
  refine bad_init (s := ⟨(hp.push (kdv_tup [v])).push (excO C hp.objs.size), g, dr, tk, os⟩) T (X.keeps k) (hlim.keeps k) (hg.keeps k) (hb.keeps k) hbs hget hnx ?_ fun h' tk' dx t1 ⟨k', hx, dn, dne, hns⟩ => ?_
  · show A.depth + 1 < recursionLimit
    exact hroom
  · have old : ∀ b o, hp.get? b = some o → h'.get? b = some o := fun b o e => k' b o (Nat.ne_of_lt (Nat.lt_succ_of_lt (Heap.lt_size e))) (k b o e)
    have z : hp.objs.size + 1 + 1 ≤ dx := by
      have q := dn
      rw [Heap.size_push, Heap.size_push] at q
      exact q
    exact ⟨rfl, hq h' tk' (hp.objs.size + 1) dx ⟨old, Nat.le_succ _, ⟨_, _, hx, rfl, rfl, rfl, rfl⟩, Nat.le_trans (Nat.le_trans (Nat.le_succ _) (Nat.le_succ _)) z, dne, hns⟩⟩
end
end Mr
namespace Md
open PySem PySem.Spec PyProof.Rows L2
set_option autoImplicit false
theorem relO_line {v : V} {v' : Value} (r : RelV v v') (f : Str) : RelO (List.lookup f [(("line" : Str), v)]) (if f = "line" then some v' else none) := by
  by_cases hw : f = "line"
  · subst hw
    rw [if_pos rfl]
    have q : List.lookup ("line" : Str) [(("line" : Str), v)] = some v := by simp [List.lookup]
    rw [q]
    exact r
  · rw [if_neg hw]
    have qw : (f == ("line" : Str)) = false := by simpa using hw
    have q2 : List.lookup f [(("line" : Str), v)] = none := by simp [List.lookup, qw]
    rw [q2]
    trivial
section
variable {X : Cx} {C fI : Addr}
/-- BadText(e) -/
def tMkBad (C : Addr) (ta : TA) : L2.St → Hp → XK → Prop := fun σ H Q => ta σ H fun vs H1 => ∃ v, vs = [v] ∧ ∀ d, H1 d = none → Q (.ref C) (some d) (upd H1 d (.xd [(("line" : Str), v)]))
theorem pmk_bad {a : Expr} {ta : TA} {p pos : Pos} {k : Nat} (T : Mr.BadTxt X.prog X.K X.mg C fI) (hr : Room k X.A) (ha : PA X [a] ta) (hg : Gl X "BadText" := by rfl)
    (he : starEach (a :: []) X.env = (false, eval a X.env) :: starEach [] X.env := by rfl) (hpl : (backTo pos (starEach [] X.env)).any (·.1) = false := by rfl) :
    PMk X (.Call (.Name "BadText" p) [a] [] pos) (tMkBad C ta) := by
  intro pins s σ H Q I h
  refine wpAny_Call_Name_kw (ld_glob I hg T.gC ?_)
  refine PySem.W.callWith_K (h₀ := X.base) I.ok.mod.kin T.kC (thn (ha.run pos pins s σ H _ I h) fun us s1 hh => ?_) he hpl
  obtain ⟨vs, H1, I1, r1, v, ev, q1⟩ := hh
  subst ev
  refine ⟨I1.kIn, ?_⟩
  cases r1 with
  | cons rv rn =>
    rename_i v' us'
    cases rn
    show wpAny _ _ (call (.ref C) [v']) _ _ _
    have hlim := I1.nolimit
    have hglob := I1.mod.glob.keeps I1.bk
    obtain ⟨mb, hb1, hb2⟩ := I1.mod.blt
    have hblt := hb1.keeps I1.bk
    have hbs : mb "super" = some (.type "super") := (hb2 "super" (by decide)).trans (by decide +kernel)
    obtain ⟨hp, g, dr, tk, os⟩ := s1
    refine wpAny_call (Mr.bad_made T I1.kIn hlim hglob hblt hbs (by have := hr.dp; omega) fun h' tk' e d M => ?_)
    show MkP X pins σ Q (.ref e) ⟨h', g, dr, tk', os⟩
    obtain ⟨oe, fv, hoe, hc, hd, hdat, h1⟩ := M.obj
    have hns := M.ns
    obtain ⟨G', g1, g2⟩ := restrict h' fun b => decide (b ≠ e)
    have gk : ∀ b, b ≠ e → G'.get? b = h'.get? b := fun b hb => g1 b (decide_eq_true hb)
    have ge : G'.get? e = none := g2 e (by simp)
    have old : ∀ b o, hp.get? b = some o → G'.get? b = some o := fun b o q => (gk b (Nat.ne_of_lt (Nat.lt_of_lt_of_le (Heap.lt_size q) M.new))).trans (M.keep b o q)
    have ob : ObjOk X.prog X.w (upd H1 d (.xd [(("line" : Str), v)])) G' d (.xd [(("line" : Str), v)]) :=
      ⟨_, hns.at (fun o q => (gk d M.dne).trans q), fun f => relO_line rv f⟩
    have J : Inv X pins σ (upd H1 d (.xd [(("line" : Str), v)])) ⟨G', g, dr, tk', os⟩ := I1.laid (t' := tk') old M.dbig ob
    refine ⟨e, oe, fv, ⟨G', g, dr, tk', os⟩, _, .ref C, some d, rfl, J, fun b o q => ?_, ge, hoe, ⟨hc, hd⟩, hdat, h1, ?_, rfl, I1.bare, raises_own T.exC T.tyC, q1 d (I1.hok.fresh M.dbig)⟩
    · by_cases hb : b = e
      · have q' : G'.get? b = some o := q
        rw [hb, ge] at q'
        cases q'
      · exact (gk b hb).symm.trans q
    · rw [upd_ne (Ne.symm M.dne)]
      exact I1.hok.fresh M.new
def mRaise (a : mE) : mX := fun env s O => match a env s with
  | some (.int i, s1) => some (.ex i, s1, O)
  | _ => none
theorem sx_raise {a : Expr} {ma : mE} {E : XK} {p pos pos2 : Pos} {k : Nat} (T : Mr.BadTxt X.prog X.K X.mg C fI) (hr : Room k X.A) (tk : Takes X fun cls d _ H => E cls d H) (ha : PE X a (SE ma)) (hc : X.calm = true := by rfl) (hg : Gl X "BadText" := by rfl)
    (he : starEach (a :: []) X.env = (false, eval a X.env) :: starEach [] X.env := by rfl) (hpl : (backTo pos (starEach [] X.env)).any (·.1) = false := by rfl) :
    PS X (.Raise (some (.Call (.Name "BadText" p) [a] [] pos)) none pos2) (SX (EXof C E) (mRaise ma)) := sim_ps (ps_raise hc tk (pmk_bad T hr (sa_cons ha sa_nil he) hg he hpl)) fun D σ H h => by
  obtain ⟨T, G, env, s, O, f, s', O', w, e, o, hm, k⟩ := h
  unfold mRaise at hm
  split at hm
  · rename_i i s1 h1
    cases hm
    refine SA.seq (d := [.int i]) w e (show mCons ma mNil env s = some ([.int i], s') by unfold mCons mNil; rw [h1]) fun G1 H1 vs x1 w1 e1 dv1 => ?_
    cases dv1 with
    | cons r1 r2 =>
      cases r2
      have ey := r1.int_
      subst ey
      exact ⟨_, rfl, fun d hd => k T G1 H1 (.of x1) w1 (o.ext x1) d hd⟩
  · cases hm
/-- slip.line, slip the exception that the suite holds (at a; its class cls, its dict d) -/
def tLine (C : Addr) (a : Addr) (cls : Value) (d : Option Addr) (te : TE) : TE := fun σ H Q => te σ H fun x H1 => x = .ref a ∧ cls = .ref C ∧ ∃ (dd : Addr) (v : V), d = some dd ∧ H1 dd = some (.xd [(("line" : Str), v)]) ∧ Q v H1
theorem pe_line {a : Addr} {oe : Obj} {cls : Value} {d : Option Addr} {pn : List (Addr × Obj)} {e : Expr} {te : TE} {pos : Pos} (T : Mr.BadTxt X.prog X.K X.mg C fI) (hz : Zc cls d oe) (hf : ∃ vs, oe.data = .fields vs) (he : PE (X.suite a ((a, oe) :: pn)) e te)
    (hb : attributeBase e "line" X.env (eval e X.env) = eval e X.env := by rfl) :
    PE (X.suite a ((a, oe) :: pn)) (.Attribute e "line" pos) (tLine C a cls d te) := by
  refine ⟨fun pins s σ H Q I h => ?_⟩
  refine attr_of hb (thn (he.run pins s σ H _ I h) fun u s1 hh => ?_)
  obtain ⟨x, H1, I1, rx, ex, ec, dd, v, ed, ea, q⟩ := hh
  subst ex
  obtain rfl : u = Value.ref a := rx
  subst ec
  subst ed
  obtain ⟨ha, _⟩ := I1.pin (a, oe) (List.mem_append_left _ List.mem_cons_self)
  obtain ⟨vs, hd⟩ := hf
  have hx : ObjOk X.prog X.w H1 s1.heap dd (.xd [(("line" : Str), v)]) := I1.hok dd _ ea
  obtain ⟨mA, hns, hr⟩ := hx
  obtain ⟨od, ho, hl⟩ := lookIn_ns hns
  have l : List.lookup ("line" : Str) [(("line" : Str), v)] = some v := by simp [List.lookup]
  obtain ⟨u, hu, ru⟩ := RelO.some_of (v := v) (o := mA "line") (by rw [← l]; exact hr "line")
  have J : PySem.W.InstAt s1.heap a oe C (some od) := ⟨ha, hz.1, by unfold PySem.W.notCls; rw [hd] <;> rfl, by rw [hz.2]; exact ho⟩
  exact HandSPX.exc_get I1.kIn J T.ga T.gg T.exC (PySem.W.findObj_own T.hdC T.noN rfl (by rw [hl, hu])) (handed_of ru) ⟨v, H1, I1.tok _, ru, q⟩
end
end Md
-- Me5
set_option Elab.async false
set_option linter.all false
set_option maxRecDepth 100000
set_option maxHeartbeats 4000000
namespace Md
open PySem PySem.Spec PyProof.Rows L2
set_option autoImplicit false
section
variable {P : Program} {w : World} {K : PySem.W.Frag} {mg : Str → Option Value} {base : Heap}
/-! line_pieces: slots line number found place own; level 2 -/
abbrev N_line_pieces : List Str := ["line", "number", "found", "place", "own"]
theorem sc_line_pieces : FnScope N_line_pieces ["line", "number"] (defScope s_line_pieces) := ⟨rfl, rfl, rfl, by decide +kernel, rfl, by decide +kernel, by decide +kernel⟩
abbrev c_line_pieces : mX := (mSeqX (mParX 2 3 (mConsX (mNewL mNil) (mConsX (mUpE (mC (.int 0))) mNilX))) (mSeqX (mWhileX (fz (mBand (mT (m2 dLt (mVar 3) (mF dLen (mCons (mVar 0) mNil)))) (mT (m2 dNe (m2 dIx (mVar 0) (mVar 3)) (mC (.str ("#" : Str))))))) (mSeqX (mUp (mAsg (mCall m_run_from (mCons (mVar 0) (mCons (mVar 3) mNil))) (aName 4))) (mSeqX (mIfX (fz (mT (m2 dNe (mVar 4) (mC (.str ("" : Str)))))) (mApp 2 (mF dTup (mCons (mVar 4) (mCons (mVar 1) mNil)))) (mIfX (fz (mT (m2 dNe (m2 dIx (mVar 0) (mVar 3)) (mC (.str (" " : Str)))))) (mRaise (mVar 1)) mNextX)) (mUp (mAug 3 (mF dMax2 (mCons (mC (.int 1)) (mCons (mF dLen (mCons (mVar 4) mNil)) mNil))))))) line) (mRetT (mVar 2))))
def m_line_pieces : MfR := mFnX 5 2 c_line_pieces
theorem len_line_pieces {ds : List Dt} {s : Tn} {r : (Dt ⊕ Int) × Tn} (h : m_line_pieces ds s = some r) : ds.length = 2 := mFnX_len h
theorem ok_line_pieces {C fI : Addr} (T : Tx K mg) (B : Mr.BadTxt P K mg C fI) : FnOk P w K mg base (L2.CX P w) 2 T.a_line_pieces T.d_line_pieces ["line", "number"] (spR C 2 m_line_pieces) := fn_simR T.F_line_pieces sc_line_pieces fun cdv A outer s H E hr => by
  exact (sxs_cons (sx_par 2 3 sc_line_pieces.nd (sax_cons (sex_newL sa_nil) (sax_cons (sex_up se_int) sax_nil))) (sxs_cons (sx_while line (passes_of rfl) (stx (st_w (sw_and (st_cmp (op_ltD hr.units) (sv 3) (se_callB cr_len T.n_len bt_len (sa_cons (sv 0) sa_nil))) (sw_one (st_cmp (op_neQ hr.units) (se_ix ix_D (sv 0) (sv 3)) (se_globS T.k_REMARK)))))) (sxs_cons (sx_up (ss_set 4 sc_line_pieces.nd (se_call (ok_run_from T) (hr.mono (by decide)) T.g_run_from T.F_run_from.kp (b_run_from T.F_run_from) pass0 (fun _ _ _ h => len_run_from h) (sa_cons (sv 0) (sa_cons (sv 3) sa_nil))))) (sxs_cons (sx_if (stx (st_cmp (op_neQ hr.units) (sv 4) se_str)) (sxs_one (sx_append 2 (se_tup (sa_cons (sv 4) (sa_cons (sv 1) sa_nil))))) (sxs_one (sx_if (stx (st_cmp (op_neQ hr.units) (se_ix ix_D (sv 0) (sv 3)) se_str)) (sxs_one (sx_raise B hr (takes_of rfl rfl rfl rfl) (sv 1))) sxs_nil))) (sxs_one (sx_up (ss_aug 3 sc_line_pieces.nd (se_callB (cr_max2 rfl) T.n_max bt_max (sa_cons se_int (sa_cons (se_callB cr_len T.n_len bt_len (sa_cons (sv 4) sa_nil)) sa_nil))))))))) (sxs_one (sx_retT (sv 2)))))
/-! pieces: slots text found number line; level 3 -/
abbrev N_pieces : List Str := ["text", "found", "number", "line"]
theorem sc_pieces : FnScope N_pieces ["text"] (defScope s_pieces) := ⟨rfl, rfl, rfl, by decide +kernel, rfl, by decide +kernel, by decide +kernel⟩
abbrev c_pieces : mX := (mSeqX (mSetX 1 (mNewL mNil)) (mSeqX (mForX (iEn (mCons (m2 dSplit (mVar 0) (mC (.str ("\n" : Str)))) mNil)) (aTup 2 (aCons (aName 2) (aCons (aName 3) aNil))) (mExtR 1 m_line_pieces (mCons (mVar 3) (mCons (mVar 2) mNil)))) (mRetT (mVar 1))))
def m_pieces : MfR := mFnX 4 1 c_pieces
theorem len_pieces {ds : List Dt} {s : Tn} {r : (Dt ⊕ Int) × Tn} (h : m_pieces ds s = some r) : ds.length = 1 := mFnX_len h
theorem ok_pieces {C fI : Addr} (T : Tx K mg) (B : Mr.BadTxt P K mg C fI) : FnOk P w K mg base (L2.CX P w) 3 T.a_pieces T.d_pieces ["text"] (spR C 1 m_pieces) := fn_simR T.F_pieces sc_pieces fun cdv A outer s H E hr => by
  exact (sxs_cons (sx_set 1 sc_pieces.nd (sex_newL sa_nil)) (sxs_cons (sx_for (passes_of rfl) rfl (si_enum T.n_enumerate (sa_cons (se_split (sv 0) se_str) sa_nil)) (sg_tup rfl (sgs_cons (sg_name 2 sc_pieces.nd rfl (by first | exact Or.inl rfl | exact Or.inr rfl)) (sgs_cons (sg_name 3 sc_pieces.nd rfl (by first | exact Or.inl rfl | exact Or.inr rfl)) sgs_nil))) (sxs_one (sx_extR 1 (ok_line_pieces T B) (hr.mono (by decide)) T.g_line_pieces T.F_line_pieces.kp (b_line_pieces T.F_line_pieces) passR (fun _ _ _ h => len_line_pieces h) (sa_cons (sv 3) (sa_cons (sv 2) sa_nil))))) (sxs_one (sx_retT (sv 1)))))
end
end Md
-- Me6
set_option Elab.async false
set_option linter.all false
set_option maxRecDepth 100000
set_option maxHeartbeats 4000000
namespace Md
open PySem PySem.Spec PyProof.Rows L2
set_option autoImplicit false
section
variable {P : Program} {w : World} {K : PySem.W.Frag} {mg : Str → Option Value} {base : Heap}
/-! law_cells: slots script most_so cells_so k bit_so at_so; level 1 -/
abbrev N_law_cells : List Str := ["_law_script", "_law_most_so", "_law_cells_so", "_law_k", "_law_bit_so", "_law_at_so"]
theorem sc_law_cells : FnScope N_law_cells ["_law_script", "_law_most_so"] (defScope s_law_cells) := ⟨rfl, rfl, rfl, by decide +kernel, rfl, by decide +kernel, by decide +kernel⟩
abbrev c_law_cells : mX := (mSeqX (mSetX 2 (mOrL (mSl (mVar 0) oNone (oSome (mVar 1))) (mCons (mC (.int 0)) mNil))) (mSeqX (mForX (iEn (mCons (mSl (mVar 0) (oSome (mVar 1)) (oSome (mC (.int 63)))) mNil)) (aTup 2 (aCons (aName 3) (aCons (aName 4) aNil))) (mSeqX (mUp (mAsg (m2 dMod (mF dInt (mCons (mVar 3) mNil)) (mVar 1)) (aName 5))) (mSetIx 2 (m2 dAdd (m2 dIx (mVar 2) (mVar 5)) (m2 dMul (mVar 4) (m2 dAdd (mVar 3) (mC (.int 2))))) (mVar 5)))) (mRetT (mVar 2))))
def m_law_cells : Mf := mFnL 6 2 c_law_cells
theorem len_law_cells {ds : List Dt} {s : Tn} {r : Dt × Tn} (h : m_law_cells ds s = some r) : ds.length = 2 := mFnL_len h
theorem ok_law_cells (T : Tx K mg) : FnOk P w K mg base CX0 1 T.a_law_cells T.d_law_cells ["_law_script", "_law_most_so"] (spM 2 m_law_cells) := fn_simL T.F_law_cells sc_law_cells fun cdv A outer s H E hr => by
  exact (sxs_cons (sx_set 2 sc_law_cells.nd (sex_orL (se_slice (sv 0) so_none (so_some (sv 1))) (sa_cons se_int sa_nil) T.n_list)) (sxs_cons (sx_for PassesOwn.never rfl (si_enum T.n_enumerate (sa_cons (se_slice (sv 0) (so_some (sv 1)) (so_some se_int)) sa_nil)) (sg_tup rfl (sgs_cons (sg_name 3 sc_law_cells.nd rfl (by first | exact Or.inl rfl | exact Or.inr rfl)) (sgs_cons (sg_name 4 sc_law_cells.nd rfl (by first | exact Or.inl rfl | exact Or.inr rfl)) sgs_nil))) (sxs_cons (sx_up (ss_set 5 sc_law_cells.nd (se_op op_modD (se_callT cr_intD T.n_int bt_int (sa_cons (sv 3) sa_nil)) (sv 1)))) (sxs_one (sx_setIx 2 (se_op op_addD (se_ix ix_D (sv 2) (sv 5)) (se_op op_mulD (sv 4) (se_op op_addD (sv 3) se_int))) (sv 5))))) (sxs_one (sx_retT (sv 2)))))
/-! law_sheet_rows: slots sheet_so first_so spot found brink own half; level 1 -/
def sc_law_sheet_rows_0 : Scope := match (defBody s_law_sheet_rows).getLast? with | some (.Return (some (.BinOp _ _ (.ListComp _ _ sc _) _)) _) => sc | _ => defScope s_law_sheet_rows
abbrev N_law_sheet_rows : List Str := ["_law_sheet_so", "_law_first_so", "_law_spot", "_law_found", "_law_brink", "_law_own", "_law_half"]
theorem sc_law_sheet_rows : FnScope N_law_sheet_rows ["_law_sheet_so"] (defScope s_law_sheet_rows) := ⟨rfl, rfl, rfl, by decide +kernel, rfl, by decide +kernel, by decide +kernel⟩
abbrev c_law_sheet_rows : mX := (mSeqX (mUp (mAsg (mF dLst (mCons (mC (.str ("field" : Str))) mNil)) (aName 1))) (mSeqX (mUp (mFor (iT (m2 dIx (mVar 0) (mC (.int 0)))) (aName 2) (mAsg (m2 dAdd (mVar 1) (mF dLst (mCons (mF dStr (mCons (m2 dIx (mVar 2) (mC (.int 0))) mNil)) (mCons (mF dStr (mCons (m2 dIx (mVar 2) (mC (.int 1))) mNil)) mNil)))) (aName 1)))) (mSeqX (mSetX 3 (mNewL (mCons (mVar 1) mNil))) (mSeqX (mForX (iT (m2 dIx (mVar 0) (mC (.int 1)))) (aName 4) (mApp 3 (m2 dAdd (mF dLst (mCons (mC (.str ("edge" : Str))) mNil)) (mLc (iT (m2 dAdd (m2 dIx (mVar 4) (mC (.int 0))) (m2 dIx (mVar 4) (mC (.int 1))))) (aName 5) [5] (mF dStr (mCons (mVar 5) mNil)))))) (mRetT (m2 dAdd (mVar 3) (mLc (iT (m2 dIx (mVar 0) (mC (.int 2)))) (aName 6) [6] (m2 dAdd (mF dLst (mCons (mC (.str ("turn" : Str))) mNil)) (mLc (iT (mVar 6)) (aName 5) [5] (mF dStr (mCons (mVar 5) mNil)))))))))))
def m_law_sheet_rows : Mf := mFnL 7 1 c_law_sheet_rows
theorem len_law_sheet_rows {ds : List Dt} {s : Tn} {r : Dt × Tn} (h : m_law_sheet_rows ds s = some r) : ds.length = 1 := mFnL_len h
theorem ok_law_sheet_rows (T : Tx K mg) : FnOk P w K mg base CX0 1 T.a_law_sheet_rows T.d_law_sheet_rows ["_law_sheet_so"] (spM 1 m_law_sheet_rows) := fn_simL T.F_law_sheet_rows sc_law_sheet_rows fun cdv A outer s H E hr => by
  exact (sxs_cons (sx_up (ss_set 1 sc_law_sheet_rows.nd (se_lst (sa_cons se_str sa_nil)))) (sxs_cons (sx_up (ss_for PassesOwn.never rfl (si_tup (se_ix ix_D (sv 0) se_int)) (sg_name 2 sc_law_sheet_rows.nd rfl (by first | exact Or.inl rfl | exact Or.inr rfl)) (sss_one (ss_set 1 sc_law_sheet_rows.nd (se_op op_addD (sv 1) (se_lst (sa_cons (se_callT cr_strD T.n_str bt_str (sa_cons (se_ix ix_D (sv 2) se_int) sa_nil)) (sa_cons (se_callT cr_strD T.n_str bt_str (sa_cons (se_ix ix_D (sv 2) se_int) sa_nil)) sa_nil)))))))) (sxs_cons (sx_set 3 sc_law_sheet_rows.nd (sex_newL (sa_cons (sv 1) sa_nil))) (sxs_cons (sx_for PassesOwn.never rfl (si_tup (se_ix ix_D (sv 0) se_int)) (sg_name 4 sc_law_sheet_rows.nd rfl (by first | exact Or.inl rfl | exact Or.inr rfl)) (sxs_one (sx_append 3 (se_op op_addD (se_lst (sa_cons se_str sa_nil)) (se_lc (own := [("_law_own", 5)]) sc_law_sheet_rows.nd (si_tup (se_op op_addD (se_ix ix_D (sv 4) se_int) (se_ix ix_D (sv 4) se_int))) (blkOk_by (N := N_law_sheet_rows) (sc := defScope s_law_sheet_rows) (by decide +kernel)) (fun _ _ _ _ _ => (sg_name 5 sc_law_sheet_rows.nd rfl (by first | exact Or.inl rfl | exact Or.inr rfl))) (fun _ _ _ _ _ => (se_callT cr_strD T.n_str bt_str (sa_cons (sv 5) sa_nil)))))))) (sxs_one (sx_retT (se_op op_addD (sv 3) (se_lc (own := [("_law_half", 6)]) sc_law_sheet_rows.nd (si_tup (se_ix ix_D (sv 0) se_int)) (blkOk_by (N := N_law_sheet_rows) (sc := defScope s_law_sheet_rows) (by decide +kernel)) (fun _ _ _ _ _ => (sg_name 6 sc_law_sheet_rows.nd rfl (by first | exact Or.inl rfl | exact Or.inr rfl))) (fun _ _ _ _ _ => (se_op op_addD (se_lst (sa_cons se_str sa_nil)) (se_lc (own := [("_law_own", 5)]) sc_law_sheet_rows.nd (si_tup (sv 6)) (blkOk_by (N := N_law_sheet_rows) (sc := sc_law_sheet_rows_0) (by decide +kernel)) (fun _ _ _ _ _ => (sg_name 5 sc_law_sheet_rows.nd rfl (by first | exact Or.inl rfl | exact Or.inr rfl))) (fun _ _ _ _ _ => (se_callT cr_strD T.n_str bt_str (sa_cons (sv 5) sa_nil))))))))))))))
/-! law_wide_text: slots tin rows_so found lines_so at_so own gap_so; level 3 -/
abbrev N_law_wide_text : List Str := ["_law_tin", "_law_rows_so", "_law_found", "_law_lines_so", "_law_at_so", "_law_own", "_law_gap_so"]
theorem sc_law_wide_text : FnScope N_law_wide_text ["_law_tin", "_law_rows_so"] (defScope s_law_wide_text) := ⟨rfl, rfl, rfl, by decide +kernel, rfl, by decide +kernel, by decide +kernel⟩
abbrev c_law_wide_text : mX := (mSeqX (mPar3X 2 3 4 (mConsX (mUpE (mC (.str ("" : Str)))) (mConsX (mNewL mNil) (mConsX (mUpE (mC (.int 0))) mNilX)))) (mSeqX (mForX (iL (mVar 1)) (aName 5) (mSeqX (mUp (mAsg (mCall m_law_of (mCons (mVar 0) (mCons (mF dLst (mCons (mC (.str ("" : Str))) (mCons (mC (.str ("" : Str))) (mCons (mC (.str ("" : Str))) (mCons (mC (.str ("\n" : Str))) (mCons (mC (.str (" # field A\n" : Str))) (mCons (mC (.str ("\n\n" : Str))) (mCons (mC (.str ("   \n" : Str))) mNil)))))))) mNil))) (aName 6))) (mSeqX (mUp (mAsg (m2 dAdd (mVar 4) (m2 dCount (mVar 6) (mC (.str ("\n" : Str))))) (aName 4))) (mSeqX (mApp 3 (mVar 4)) (mSeqX (mUp (mAsg (m2 dAdd (m2 dAdd (m2 dAdd (mVar 2) (mVar 6)) (mCall m_law_of (mCons (mVar 0) (mCons (mF dLst (mCons (mC (.str ("" : Str))) (mCons (mC (.str ("  " : Str))) mNil))) mNil)))) (m2 dJoin (mCall m_law_of (mCons (mVar 0) (mCons (mF dLst (mCons (mC (.str (" " : Str))) (mCons (mC (.str ("   " : Str))) mNil))) mNil))) (mVar 5))) (aName 2))) (mUp (mPar 2 4 (mCons (m2 dAdd (mVar 2) (mCall m_law_of (mCons (mVar 0) (mCons (mF dLst (mCons (mC (.str ("\n" : Str))) (mCons (mC (.str (" \n" : Str))) (mCons (mC (.str (" # (x\n" : Str))) (mCons (mC (.str ("#edge\n" : Str))) mNil))))) mNil)))) (mCons (m2 dAdd (mVar 4) (mC (.int 1))) mNil))))))))) (mRetT (mF dTup (mCons (m2 dAdd (mVar 2) (mCall m_law_of (mCons (mVar 0) (mCons (mF dLst (mCons (mC (.str ("" : Str))) (mCons (mC (.str ("\n" : Str))) (mCons (mC (.str ("# end" : Str))) mNil)))) mNil)))) (mCons (mVar 3) mNil))))))
def m_law_wide_text : Mf := mFnL 7 2 c_law_wide_text
theorem len_law_wide_text {ds : List Dt} {s : Tn} {r : Dt × Tn} (h : m_law_wide_text ds s = some r) : ds.length = 2 := mFnL_len h
theorem ok_law_wide_text (T : Tx K mg) : FnOk P w K mg base CX0 3 T.a_law_wide_text T.d_law_wide_text ["_law_tin", "_law_rows_so"] (spM 2 m_law_wide_text) := fn_simL T.F_law_wide_text sc_law_wide_text fun cdv A outer s H E hr => by
  exact (sxs_cons (sx_par3 2 3 4 sc_law_wide_text.nd (sax_cons (sex_up se_str) (sax_cons (sex_newL sa_nil) (sax_cons (sex_up se_int) sax_nil)))) (sxs_cons (sx_for PassesOwn.never rfl (si_list (sv 1)) (sg_name 5 sc_law_wide_text.nd rfl (by first | exact Or.inl rfl | exact Or.inr rfl)) (sxs_cons (sx_up (ss_set 6 sc_law_wide_text.nd (se_call (ok_law_of T) (hr.mono (by decide)) T.g_law_of T.F_law_of.kp (b_law_of T.F_law_of) pass0 (fun _ _ _ h => len_law_of h) (sa_cons (sv 0) (sa_cons (se_lst (sa_cons se_str (sa_cons se_str (sa_cons se_str (sa_cons se_str (sa_cons se_str (sa_cons se_str (sa_cons se_str sa_nil)))))))) sa_nil))))) (sxs_cons (sx_up (ss_set 4 sc_law_wide_text.nd (se_op op_addD (sv 4) (se_count (sv 6) se_str)))) (sxs_cons (sx_append 3 (sv 4)) (sxs_cons (sx_up (ss_set 2 sc_law_wide_text.nd (se_op op_addD (se_op op_addD (se_op op_addD (sv 2) (sv 6)) (se_call (ok_law_of T) (hr.mono (by decide)) T.g_law_of T.F_law_of.kp (b_law_of T.F_law_of) pass0 (fun _ _ _ h => len_law_of h) (sa_cons (sv 0) (sa_cons (se_lst (sa_cons se_str (sa_cons se_str sa_nil))) sa_nil)))) (se_join (se_call (ok_law_of T) (hr.mono (by decide)) T.g_law_of T.F_law_of.kp (b_law_of T.F_law_of) pass0 (fun _ _ _ h => len_law_of h) (sa_cons (sv 0) (sa_cons (se_lst (sa_cons se_str (sa_cons se_str sa_nil))) sa_nil))) (sv 5))))) (sxs_one (sx_up (ss_par 2 4 sc_law_wide_text.nd (sa_cons (se_op op_addD (sv 2) (se_call (ok_law_of T) (hr.mono (by decide)) T.g_law_of T.F_law_of.kp (b_law_of T.F_law_of) pass0 (fun _ _ _ h => len_law_of h) (sa_cons (sv 0) (sa_cons (se_lst (sa_cons se_str (sa_cons se_str (sa_cons se_str (sa_cons se_str sa_nil))))) sa_nil)))) (sa_cons (se_op op_addD (sv 4) se_int) sa_nil)))))))))) (sxs_one (sx_retT (se_tup (sa_cons (se_op op_addD (sv 2) (se_call (ok_law_of T) (hr.mono (by decide)) T.g_law_of T.F_law_of.kp (b_law_of T.F_law_of) pass0 (fun _ _ _ h => len_law_of h) (sa_cons (sv 0) (sa_cons (se_lst (sa_cons se_str (sa_cons se_str (sa_cons se_str sa_nil)))) sa_nil)))) (sa_cons (sv 3) sa_nil)))))))
end
end Md
-- Mw1
set_option Elab.async false
set_option linter.all false
set_option maxRecDepth 100000
set_option maxHeartbeats 4000000
/-! rows_of_pieces: the rows as they grow. -/
namespace Md
open PySem PySem.Spec PyProof.Rows L2
set_option autoImplicit false
abbrev Rw := Int × List Str
def encRw (r : Rw) : Dt := .tuple [.int r.1, .list (r.2.map .str)]
abbrev RS := List Rw × Option Rw
def midRow (st : RS) (l : Int) : RS := match st.2 with
  | none => (st.1, some (l, []))
  | some r => if r.1 = l then st else (st.1 ++ [r], some (l, []))
def pushRow (st : RS) (x : Str) : RS := match st.2 with
  | none => st
  | some r => (st.1, some (r.1, r.2 ++ [x]))
def rowStep (st : RS) (x : Str × Int) : RS := pushRow (midRow st x.2) x.1
def rowsAll (st : RS) : List Rw := st.1 ++ st.2.toList
def rowsOf (ps : List (Str × Int)) : List Rw := rowsAll (ps.foldl rowStep ([], none))
/-- the last row as it grows: its tuple at t, its list at q -/
def CurOk (T : Tm) (G H0 H : Hp) (p : Addr) (us : List V) : Option Rw → Prop
  | none => H p = some (.lst us)
  | some r => ∃ t q, H p = some (.lst (us ++ [.ref t])) ∧ H t = some (.tup [.int r.1, .ref q]) ∧ H q = some (.lst (r.2.map V.str)) ∧ G t = none ∧ G q = none ∧ T.tin ≠ some t ∧ T.tin ≠ some q ∧ t ≠ p ∧ q ≠ p ∧ t ≠ q ∧ H0 t = none ∧ H0 q = none
structure RIn (T : Tm) (G0 H0 : Hp) (s : Tn) (p : Addr) (st : RS) (G H : Hp) : Prop where
  up : Same G0 G
  fresh : ∀ b o, H0 b = some o → G0 b = none → G b = none
  same : ∀ b o, H0 b = some o → T.tin ≠ some b → b ≠ p → H b = some o
  wd : Wd T s G H
  gp : G p = none
  tp : T.tin ≠ some p
  rows : ∃ us, DqAll G us (st.1.map encRw) ∧ CurOk T G H0 H p us st.2
def RInv (T : Tm) (G0 H0 : Hp) (s : Tn) (p : Addr) (st : RS) (H : Hp) : Prop := ∃ G, RIn T G0 H0 s p st G H
section
variable {T : Tm} {G0 H0 G H H1 : Hp} {s : Tn} {p : Addr} {st : RS}
theorem dq_strs {G : Hp} : ∀ l : List Str, DqAll G (l.map V.str) (l.map .str)
  | [] => .nil
  | _ :: l => .cons (.str _) (dq_strs l)
/-- what changes only at the source -/
theorem RInv.keep (i : RInv T G0 H0 s p st H) (k : ∀ b o, H b = some o → T.tin ≠ some b → H1 b = some o) (ht : ∀ q, T.tin = some q → H1 q = some (.lst [.int s.1, .int s.2.1, .int s.2.2])) : RInv T G0 H0 s p st H1 := by
  obtain ⟨G, i⟩ := i
  obtain ⟨us, h1, h2⟩ := i.rows
  refine ⟨G, i.up, i.fresh, fun b o e n m => k b o (i.same b o e n m) n, ⟨fun b o e => k b o (i.wd.sub b o e) fun z => ?_, fun q z => ⟨ht q z, (i.wd.tin q z).2⟩⟩, i.gp, i.tp, us, h1, ?_⟩
  · rw [(i.wd.tin b z).2] at e
    cases e
  · cases hst : st.2 with
    | none =>
      rw [hst] at h2
      exact k _ _ h2 i.tp
    | some r =>
      rw [hst] at h2
      obtain ⟨t, q, a1, a2, a3, a4, a5, a6, a7, a8, a9⟩ := h2
      exact ⟨t, q, k _ _ a1 i.tp, k _ _ a2 a6, k _ _ a3 a7, a4, a5, a6, a7, a8, a9⟩
/-- the last row is let be -/
theorem RInv.freeze (i : RInv T G0 H0 s p st H) : RInv T G0 H0 s p (rowsAll st, none) H := by
  obtain ⟨G, i⟩ := i
  obtain ⟨us, h1, h2⟩ := i.rows
  obtain ⟨done, cur⟩ := st
  cases cur with
  | none => exact ⟨G, i.up, i.fresh, i.same, i.wd, i.gp, i.tp, us, by show DqAll G us ((done ++ []).map encRw); rw [List.append_nil]; exact h1, h2⟩
  | some r =>
    obtain ⟨t, q, a1, a2, a3, a4, a5, a6, a7, a8, a9, a10, a11, a12⟩ := h2
    have s1 : Same G (upd G q (.lst (r.2.map V.str))) := same_upd _ a5
    have g1 : upd G q (.lst (r.2.map V.str)) t = none := by rw [upd_ne a10]; exact a4
    have s2 : Same (upd G q (.lst (r.2.map V.str))) (upd (upd G q (.lst (r.2.map V.str))) t (.tup [.int r.1, .ref q])) := same_upd _ g1
    have sg := s1.trans s2
    have gq : upd (upd G q (.lst (r.2.map V.str))) t (.tup [.int r.1, .ref q]) q = some (.lst (r.2.map V.str)) := by rw [upd_ne (Ne.symm a10)]; exact upd_same
    refine ⟨_, i.up.trans sg, fun b o e n => ?_, i.same, ⟨fun b o e => ?_, fun z hz => ⟨(i.wd.tin z hz).1, ?_⟩⟩, ?_, i.tp, us ++ [V.ref t], ?_, a1⟩
    · have n1 : b ≠ t := fun z => by rw [z, a11] at e; cases e
      have n2 : b ≠ q := fun z => by rw [z, a12] at e; cases e
      rw [upd_ne n1, upd_ne n2]
      exact i.fresh b o e n
    · by_cases c1 : b = t
      · rw [c1, upd_same] at e
        rw [c1, a2]
        exact e
      · rw [upd_ne c1] at e
        by_cases c2 : b = q
        · rw [c2, upd_same] at e
          rw [c2, a3]
          exact e
        · rw [upd_ne c2] at e
          exact i.wd.sub b o e
    · have n1 : z ≠ t := fun c => a6 (by rw [← c]; exact hz)
      have n2 : z ≠ q := fun c => a7 (by rw [← c]; exact hz)
      rw [upd_ne n1, upd_ne n2]
      exact (i.wd.tin z hz).2
    · rw [upd_ne (Ne.symm a8), upd_ne (Ne.symm a9)]
      exact i.gp
    · show DqAll _ _ ((done ++ [r]).map encRw)
      rw [List.map_append]
      exact (DqAll.mono sg _ _ h1).append (.cons (.tup upd_same (.cons (.int _) (.cons (.lst gq (dq_strs _)) .nil))) .nil)
/-- a new row is begun -/
theorem RInv.begin (i : RInv T G0 H0 s p (rowsAll st, none) H) {l : Int} {t q : Addr} (hq : H q = none) (ht : upd H q (.lst []) t = none) {xs : List V} (hp : H p = some (.lst xs)) :
    RInv T G0 H0 s p (rowsAll st, some (l, [])) (upd (upd (upd H q (.lst [])) t (.tup [.int l, .ref q])) p (.lst (xs ++ [.ref t]))) := by
  obtain ⟨G, i⟩ := i
  obtain ⟨us, h1, h2⟩ := i.rows
  have h2 : H p = some (.lst us) := h2
  rw [hp] at h2
  cases h2
  have ntq : t ≠ q := fun z => by
    rw [z, upd_same] at ht
    cases ht
  have htn : H t = none := by
    rw [upd_ne ntq] at ht
    exact ht
  have nqp : q ≠ p := fun z => by
    rw [z, hp] at hq
    cases hq
  have ntp : t ≠ p := fun z => by
    rw [z, hp] at htn
    cases htn
  have far : ∀ b o, H b = some o → b ≠ p → upd (upd (upd H q (.lst [])) t (.tup [.int l, .ref q])) p (.lst (xs ++ [.ref t])) b = some o := fun b o e n => by
    rw [upd_ne n, upd_ne (ne_of_none e htn), upd_ne (ne_of_none e hq)]
    exact e
  have h0 : ∀ b, H b = none → b ≠ p → T.tin ≠ some b → H0 b = none := fun b e n n2 => by
    cases z : H0 b with
    | none => rfl
    | some o =>
      have := i.same b o z n2 n
      rw [e] at this
      cases this
  have tt := i.wd.tne htn
  have tq := i.wd.tne hq
  refine ⟨G, i.up, i.fresh, fun b o e n m => far b o (i.same b o e n m) m, ⟨fun b o e => far b o (i.wd.sub b o e) fun z => ?_, fun z hz => ⟨far _ _ (i.wd.tin z hz).1 fun c => i.tp (by rw [← c]; exact hz), (i.wd.tin z hz).2⟩⟩, i.gp, i.tp, xs, h1, t, q, upd_same, ?_, ?_, i.wd.free htn, i.wd.free hq, tt, tq, ntp, nqp, ntq, h0 t htn ntp tt, h0 q hq nqp tq⟩
  · rw [z, i.gp] at e
    cases e
  · rw [upd_ne ntp, upd_same]
  · rw [upd_ne nqp, upd_ne (Ne.symm ntq), upd_same] <;> rfl
/-- a piece is put behind -/
theorem RInv.push {done : List Rw} {r : Rw} (i : RInv T G0 H0 s p (done, some r) H) : ∃ us t q, H p = some (.lst (us ++ [.ref t])) ∧ H t = some (.tup [.int r.1, .ref q]) ∧ H q = some (.lst (r.2.map V.str)) ∧
    ∀ x : Str, RInv T G0 H0 s p (done, some (r.1, r.2 ++ [x])) (upd H q (.lst (r.2.map V.str ++ [.str x]))) := by
  obtain ⟨G, i⟩ := i
  obtain ⟨us, h1, t, q, a1, a2, a3, a4, a5, a6, a7, a8, a9, a10, a11, a12⟩ := i.rows
  refine ⟨us, t, q, a1, a2, a3, fun x => ?_⟩
  have far : ∀ b o, H b = some o → b ≠ q → upd H q (.lst (r.2.map V.str ++ [.str x])) b = some o := fun b o e n => by rw [upd_ne n]; exact e
  refine ⟨G, i.up, i.fresh, fun b o e n m => far b o (i.same b o e n m) fun z => ?_, ⟨fun b o e => far b o (i.wd.sub b o e) fun z => ?_, fun z hz => ⟨far _ _ (i.wd.tin z hz).1 fun c => a7 (by rw [← c]; exact hz), (i.wd.tin z hz).2⟩⟩, i.gp, i.tp, us, h1, t, q, far _ _ a1 (Ne.symm a9), far _ _ a2 a10, ?_, a4, a5, a6, a7, a8, a9, a10, a11, a12⟩
  · rw [z, a12] at e
    cases e
  · rw [z, a5] at e
    cases e
  · show upd H q _ q = some (.lst ((r.2 ++ [x]).map V.str))
    rw [upd_same, List.map_append] <;> rfl
/-- all the rows, to be looked at -/
theorem RInv.look (i : RInv T G0 H0 s p st H) : ∃ G us, Same G0 G ∧ Wd T s G H ∧ G p = some (.lst us) ∧ DqAll G us ((rowsAll st).map encRw) ∧ H p = some (.lst us) := by
  obtain ⟨G, i⟩ := i.freeze
  obtain ⟨us, h1, h2⟩ := i.rows
  have h2 : H p = some (.lst us) := h2
  have sg := same_upd (.lst us) i.gp
  refine ⟨upd G p (.lst us), us, i.up.trans sg, ⟨fun b o e => ?_, fun z hz => ⟨(i.wd.tin z hz).1, ?_⟩⟩, upd_same, DqAll.mono sg _ _ h1, h2⟩
  · by_cases c : b = p
    · rw [c, upd_same] at e
      rw [c, h2]
      exact e
    · rw [upd_ne c] at e
      exact i.wd.sub b o e
  · have n : z ≠ p := fun c => i.tp (by rw [← c]; exact hz)
    rw [upd_ne n]
    exact (i.wd.tin z hz).2
end
end Md
-- Mw2
set_option Elab.async false
set_option linter.all false
set_option maxRecDepth 100000
set_option maxHeartbeats 4000000
/-! rows_of_pieces: the walk. -/
namespace Md
open PySem PySem.Spec PyProof.Rows L2
set_option autoImplicit false
def prs? : List Dt → Option (List (Str × Int))
  | [] => some []
  | .tuple [.str a, .int b] :: r => match prs? r with
    | some l => some ((a, b) :: l)
    | none => none
  | _ :: _ => none
def encPr (x : Str × Int) : Dt := .tuple [.str x.1, .int x.2]
theorem prs_of : ∀ {ds : List Dt} {ps : List (Str × Int)}, prs? ds = some ps → ds = ps.map encPr
  | [], _, h => by
    cases h
    rfl
  | d :: ds, ps, h => by
    unfold prs? at h
    split at h
    · rename_i e
      cases e
    · rename_i a b r e
      cases e
      split at h
      · rename_i l hl
        cases h
        rw [prs_of hl] <;> rfl
      · cases h
    · cases h
theorem prs_map : ∀ ps : List (Str × Int), prs? (ps.map encPr) = some ps
  | [] => rfl
  | p :: ps => by
    show (match prs? (ps.map encPr) with
      | some l => some ((p.1, p.2) :: l)
      | none => none) = some (p :: ps)
    rw [prs_map ps]
def m_rows_of_pieces : MfR := fun ds s => match ds with
  | [.str x] => match m_pieces [.str x] s with
    | some (.inl (.list items), s1) => match prs? items with
      | some ps => if ps.length < line then some (.inl (.list ((rowsOf ps).map encRw)), s1) else none
      | none => none
    | some (.inr i, s1) => some (.inr i, s1)
    | _ => none
  | _ => none
theorem len_rows_of_pieces {ds : List Dt} {s : Tn} {r : (Dt ⊕ Int) × Tn} (h : m_rows_of_pieces ds s = some r) : ds.length = 1 := by
  unfold m_rows_of_pieces at h
  split at h
  · rfl
  · cases h
/-- found == [] or found[-1][0] != line -/
abbrev mRowT : mB := mBor (mT (m2 dEq (mVar 1) (mF dLst mNil))) (mT (m2 dNe (m2 dIx (m2 dIx (mVar 1) (m1 dNeg (mC (.int 1)))) (mC (.int 0))) (mVar 3)))
theorem atI_last {α : Type} (l : List α) (x : α) : L2.atI (l ++ [x]) (-1) = some x := by
  unfold L2.atI L2.ixN
  have e : (l ++ [x]).length = l.length + 1 := by rw [List.length_append] <;> rfl
  rw [if_neg (by decide), if_pos (by rw [e]; omega)]
  have e2 : ((-1 : Int) + ((l ++ [x]).length : Nat)).toNat = l.length := by rw [e]; omega
  show (l ++ [x])[((-1 : Int) + ((l ++ [x]).length : Nat)).toNat]? = some x
  rw [e2, List.getElem?_append_right (Nat.le_refl _), Nat.sub_self] <;> rfl
/-- is a row to be begun? -/
def begins (st : RS) (l : Int) : Bool := match st.2 with
  | none => true
  | some r => !decide (r.1 = l)
theorem rowT (st : RS) (l : Int) (a b : Option Dt) (s : Tn) (hn : st.2 = none → st.1 = []) : mRowT [a, some (.list ((rowsAll st).map encRw)), b, some (.int l)] s = some (begins st l, s) := by
  obtain ⟨done, cur⟩ := st
  cases cur with
  | none =>
    rw [show done = [] from hn rfl]
    rfl
  | some r =>
    have e1 : (rowsAll (done, some r)).map encRw = done.map encRw ++ [encRw r] := by
      show (done ++ [r]).map encRw = _
      rw [List.map_append] <;> rfl
    rw [e1]
    have ne : (done.map encRw ++ [encRw r]).isEmpty = false := by simp
    have h2 : dIx (.list (done.map encRw ++ [encRw r])) (.int (-1)) = some (encRw r) := atI_last _ _
    have h3 : dEq (.list (done.map encRw ++ [encRw r])) (.list []) = some (.bool false) := by
      show some (PyData.bool (done.map encRw ++ [encRw r]).isEmpty) = _
      rw [ne]
    have h4 : dIx (encRw r) (.int 0) = some (.int r.1) := rfl
    have h5 : dNe (.int r.1) (.int l) = some (.bool (!decide (r.1 = l))) := rfl
    have h6 : dNeg (.int 1) = some (.int (-1)) := rfl
    have h7 : dLst [] = some (.list []) := rfl
    simp only [mRowT, mBor, mT, m2, m1, mVar, mC, mF, mNil, h3, h7, List.getElem?_cons_succ, List.getElem?_cons_zero, h6, h2, h4, h5, begins]
end Md
-- Mw3
set_option Elab.async false
set_option linter.all false
set_option maxRecDepth 100000
set_option maxHeartbeats 4000000
/-! rows_of_pieces keeps m_rows_of_pieces. -/
namespace Md
open PySem PySem.Spec PyProof.Rows L2
set_option autoImplicit false
section
variable {P : Program} {w : World} {K : PySem.W.Frag} {mg : Str → Option Value} {base : Heap}
abbrev N_rows_of_pieces : List Str := ["text", "found", "piece", "line"]
theorem sc_rows_of_pieces : FnScope N_rows_of_pieces ["text"] (defScope s_rows_of_pieces) := ⟨rfl, rfl, rfl, by decide +kernel, rfl, by decide +kernel, by decide +kernel⟩
/-- found.append((line, [])) -/
abbrev t_begin (K : PySem.W.Frag) : TS := tSeq (tDrop (tBM K "list" rAppend (tVar 1) (tCons (tTup (tCons (tVar 3) (tCons (tLst tNil) tNil))) tNil))) tNext
/-- found[-1][1].append(piece) -/
abbrev t_push (K : PySem.W.Frag) : TS := tDrop (tBM K "list" rAppend (tOp (rIxT K) (tOp (rIxL K) (tVar 1) (tUn (rU fun i => .int (-i)) (tC (.int 1)))) (tC (.int 1))) (tCons (tVar 2) tNil))
abbrev t_turn (K : PySem.W.Frag) : TS := tSeq (tIfS (SB mRowT) (t_begin K) tNext) (tSeq (t_push K) tNext)
abbrev t_rows (K : PySem.W.Frag) (C : Addr) (E : XK) : TS :=
  tSeq (tAsg (tLst tNil) (gName 1)) (tSeq (tFor (iList K (tCall (spR C 1 m_pieces) [] E (SA (mCons (mVar 0) mNil)))) (gTup K 2 (gCons (gName 2) (gCons (gName 3) gNil))) (t_turn K)) (tSeq (tRet (tVar 1)) tNext))
theorem len_row {T : Tm} {G0 H0 H : Hp} {s : Tn} {p : Addr} {st : RS} (i : RInv T G0 H0 s p st H) : True := trivial
theorem rowsAll_mid (st : RS) (l : Int) (h : begins st l = true) : midRow st l = (rowsAll st, some (l, [])) := by
  obtain ⟨done, cur⟩ := st
  cases cur with
  | none =>
    show (done, some (l, [])) = (done ++ [], some (l, []))
    rw [List.append_nil]
  | some r =>
    have hr : ¬ r.1 = l := by
      have h' : (!decide (r.1 = l)) = true := h
      simpa using h'
    show (if r.1 = l then (done, some r) else (done ++ [r], some (l, []))) = _
    rw [if_neg hr] <;> rfl
theorem mid_same (st : RS) (l : Int) (h : begins st l = false) : midRow st l = st := by
  obtain ⟨done, cur⟩ := st
  cases cur with
  | none => cases h
  | some r =>
    have hr : r.1 = l := by
      have h' : (!decide (r.1 = l)) = false := h
      simpa using h'
    show (if r.1 = l then (done, some r) else (done ++ [r], some (l, []))) = _
    rw [if_pos hr]
theorem mid_some (st : RS) (l : Int) : ∃ done r, midRow st l = (done, some r) := by
  cases h : begins st l with
  | true => exact ⟨_, _, rowsAll_mid st l h⟩
  | false =>
    obtain ⟨done, cur⟩ := st
    cases cur with
    | none => cases h
    | some r => exact ⟨done, r, mid_same _ l h⟩
/-- at least as many pieces as rows -/
theorem rows_le : ∀ (ps : List (Str × Int)) (st : RS), (rowsAll (ps.foldl rowStep st)).length ≤ (rowsAll st).length + ps.length
  | [], st => Nat.le_refl _
  | x :: ps, st => by
    have h := rows_le ps (rowStep st x)
    have e : (rowsAll (rowStep st x)).length ≤ (rowsAll st).length + 1 := by
      obtain ⟨done, r, hm⟩ := mid_some st x.2
      have e2 : rowStep st x = (done, some (r.1, r.2 ++ [x.1])) := by
        unfold rowStep
        rw [hm] <;> rfl
      have e3 : (rowsAll (midRow st x.2)).length ≤ (rowsAll st).length + 1 := by
        cases hb : begins st x.2 with
        | true =>
          rw [rowsAll_mid st x.2 hb]
          show (rowsAll st ++ [_]).length ≤ _
          rw [List.length_append] <;> exact Nat.le_refl _
        | false =>
          rw [mid_same st x.2 hb]
          exact Nat.le_succ _
      rw [hm] at e3
      rw [e2]
      show (done ++ [_]).length ≤ _
      have e4 : (done ++ [r]).length ≤ (rowsAll st).length + 1 := e3
      rw [List.length_append] at e4 ⊢
      exact e4
    show (rowsAll (ps.foldl rowStep (rowStep st x))).length ≤ (rowsAll st).length + (ps.length + 1)
    omega
theorem none_nil : ∀ (ps : List (Str × Int)), (ps.foldl rowStep ([], none)).2 = none → (ps.foldl rowStep ([], none)).1 = [] := by
  have key : ∀ (ps : List (Str × Int)) (st : RS), (st.2 = none → st.1 = []) → ((ps.foldl rowStep st).2 = none → (ps.foldl rowStep st).1 = []) := by
    intro ps
    induction ps with
    | nil => exact fun st h => h
    | cons x ps ih =>
      intro st h
      refine ih (rowStep st x) fun z => ?_
      obtain ⟨done, r, hm⟩ := mid_some st x.2
      unfold rowStep at z
      rw [hm] at z
      cases z
  exact fun ps => key ps _ fun _ => rfl
/-- one turn of the loop -/
theorem row_turn {T : Tm} {G0 H0 : Hp} {s1 : Tn} {p : Addr} {st : RS} {v0 : Option V} {x : Str} {l : Int} {D : Ends} {H : Hp} (hlen : (rowsAll st).length < line) (hst : st.2 = none → st.1 = []) (i : RInv T G0 H0 s1 p st H) (hq : ∀ r, (midRow st l).2 = some r → r.2.length < line)
    (k : ∀ H', RInv T G0 H0 s1 p (rowStep st (x, l)) H' → D.nx [v0, some (.ref p), some (.str x), some (.int l)] H') : t_turn K D [v0, some (.ref p), some (.str x), some (.int l)] H := by
  -- the piece is put behind
  have push : ∀ H', RInv T G0 H0 s1 p (midRow st l) H' → t_push K { D with nx := fun σ H => tNext D σ H } [v0, some (.ref p), some (.str x), some (.int l)] H' := fun H' i' => by
    obtain ⟨done, r, hm⟩ := mid_some st l
    have hr := hq r (by rw [hm])
    rw [hm] at i'
    obtain ⟨us, t, q, a1, a2, a3, a4⟩ := i'.push
    refine ⟨_, rfl, 1, rfl, p, _, -1, .ref t, rfl, rfl, SqL.of a1, atI_last _ _, t, _, 1, .ref q, rfl, rfl, SqT.of a2, rfl, .inl ⟨rfl, _, SqL.of a3⟩, _, rfl, q, _, .str x, rfl, rfl, a3, ?_, ?_⟩
    · rw [List.length_map, sizeLine_is]
      exact hr
    · refine k _ ?_
      have e : rowStep st (x, l) = (done, some (r.1, r.2 ++ [x])) := by
        unfold rowStep
        rw [hm] <;> rfl
      rw [e]
      exact a4 x
  -- the test
  obtain ⟨G, us, sg, wd, gp, rw1, hp⟩ := i.look
  have eo : EnvOk T G [v0, some (.ref p), some (.str x), some (.int l)] [none, some (.list ((rowsAll st).map encRw)), none, some (.int l)] := ⟨rfl, fun j d e => by
    match j, e with
    | 1, e =>
      cases e
      exact ⟨_, rfl, .inl (.lst gp rw1)⟩
    | 3, e =>
      cases e
      exact ⟨_, rfl, .inl (.int _)⟩⟩
  refine SB.seq wd eo (rowT st l none none s1 hst) fun G1 H1 x1 w1 e1 => ?_
  have i1 : RInv T G0 H0 s1 p st H1 := i.keep (fun b o e n => x1.same b o e n) fun q z => (w1.tin q z).1
  have hp1 : H1 p = some (.lst us) := x1.same p _ hp (by
    obtain ⟨_, i⟩ := i
    exact i.tp)
  cases hb : begins st l with
  | true =>
    rw [if_pos rfl]
    have e0 := rowsAll_mid st l hb
    refine ⟨_, rfl, .inl ⟨rfl, us, SqL.of hp1⟩, _, rfl, ⟨Nat.zero_le _, fun q hq1 => ⟨by show 2 ≤ sizeLine; rw [sizeLine_is]; omega, fun t ht => ?_⟩⟩⟩
    have pq : p ≠ q := fun z => by
      rw [← z, hp1] at hq1
      cases hq1
    have pt : p ≠ t := fun z => by
      rw [← z, upd_ne pq, hp1] at ht
      cases ht
    refine ⟨p, us, .ref t, rfl, rfl, ?_, ?_, ?_⟩
    · rw [upd_ne pt, upd_ne pq]
      exact hp1
    · rw [rw1.length, List.length_map, sizeLine_is]
      exact hlen
    · refine push _ ?_
      rw [e0]
      exact i1.freeze.begin hq1 ht hp1
  | false =>
    rw [if_neg Bool.false_ne_true]
    refine push _ ?_
    rw [mid_same st l hb]
    exact i1
end
end Md
-- Mw4
set_option Elab.async false
set_option linter.all false
set_option maxRecDepth 100000
set_option maxHeartbeats 4000000
/-! rows_of_pieces keeps m_rows_of_pieces: the def. -/
namespace Md
open PySem PySem.Spec PyProof.Rows L2
set_option autoImplicit false
theorem mid_len {st : RS} {l : Int} {n : Nat} (h : ∀ r, st.2 = some r → r.2.length ≤ n) : ∀ r, (midRow st l).2 = some r → r.2.length ≤ n := fun r e => by
  cases hb : begins st l with
  | true =>
    rw [rowsAll_mid st l hb] at e
    cases e
    exact Nat.zero_le _
  | false =>
    rw [mid_same st l hb] at e
    exact h r e
theorem cur_len : ∀ (ps : List (Str × Int)) (st : RS) (n : Nat), (∀ r, st.2 = some r → r.2.length ≤ n) → ∀ r, (ps.foldl rowStep st).2 = some r → r.2.length ≤ n + ps.length
  | [], st, n, h, r, e => h r e
  | x :: ps, st, n, h, r, e => by
    have := cur_len ps (rowStep st x) (n + 1) (fun r e => by
      obtain ⟨done, r0, hm⟩ := mid_some st x.2
      have h0 := mid_len (l := x.2) h r0 (by rw [hm])
      unfold rowStep at e
      rw [hm] at e
      have e' : some (r0.1, r0.2 ++ [x.1]) = some r := e
      cases e'
      show (r0.2 ++ [x.1]).length ≤ _
      rw [List.length_append]
      exact Nat.succ_le_succ h0) r e
    rw [List.length_cons]
    omega
section
variable {P : Program} {w : World} {K : PySem.W.Frag} {mg : Str → Option Value} {base : Heap}
theorem rows_run {C : Addr} {vs : List V} {H : Hp} {Q : VK} {E : XK} (h : spR C 1 m_rows_of_pieces vs H Q E) : t_rows K C E { nx := fun _ H' => Q .non H', rt := Q } (L2.start N_rows_of_pieces vs) H := by
  obtain ⟨T, G, ds, s, r, s', wd, dv, hl, hm, k⟩ := h
  unfold m_rows_of_pieces at hm
  split at hm
  · rename_i x
    cases dv with
    | @cons v0 _ vr _ d0 dn =>
      cases dn
      have ev := d0.str_
      subst ev
      refine ⟨Nat.zero_le _, fun p hp => ?_⟩
      have tp := wd.tne hp
      have gp := wd.free hp
      have wd1 : Wd T s G (upd H p (.lst [])) := ⟨fun b o e => by rw [upd_ne (ne_of_none (wd.sub b o e) hp)]; exact wd.sub b o e, fun q z => ⟨by rw [upd_ne (ne_of_none (wd.tin q z).1 hp)]; exact (wd.tin q z).1, (wd.tin q z).2⟩⟩
      have eo : EnvOk T G [some (.str x), some (.ref p), none, none] [some (.str x), none, none, none] := ⟨rfl, fun j d e => by
        match j, e with
        | 0, e =>
          cases e
          exact ⟨_, rfl, .inl (.str _)⟩
        | 1, e => cases e
        | 2, e => cases e
        | 3, e => cases e
        | j + 4, e => simp at e⟩
      -- from the start on
      have ext0 : ∀ {G1 H1 : Hp}, Ext T G (upd H p (.lst [])) G1 H1 → Ext T G H G1 H1 := fun x1 => ⟨fun b o e n => x1.same b o (by rw [upd_ne (ne_of_none e hp)]; exact e) n, x1.up, fun b o e n => x1.fresh b o (by rw [upd_ne (ne_of_none e hp)]; exact e) n⟩
      show SA (mCons (mVar 0) mNil) [some (.str x), some (.ref p), none, none] (upd H p (.lst [])) _
      refine SA.seq (d := [.str x]) wd1 eo rfl fun G1 H1 ws x1 w1 e1 dv1 => ?_
      cases dv1 with
      | @cons u0 _ ur _ d1 dn1 =>
        cases dn1
        have call : ∀ r0 s0, m_pieces [.str x] s = some (r0, s0) → (∀ G' H', Ext T G1 H1 G' H' → Wd T s0 G' H' → Res C T G' H' (fun z H2 => ∃ a, z = .ref a ∧ (∃ xs, SqL K H2 a xs) ∧ ∃ W : Nat → Nat → L2.St → Hp → Prop, (∃ m, W 0 m [some (.str x), some (.ref p), none, none] H2) ∧ ∀ i m σ H, W i m σ H →
            ((Itl K a).stop i H ∧ tSeq (tRet (tVar 1)) tNext { nx := fun _ H' => Q .non H', rt := Q } σ H) ∨ ((Itl K a).go i H ∧ ∃ N : L2.St → Hp → Prop, (∀ σ' H', N σ' H' → ∃ m', m' < m ∧ W (i + 1) m' σ' H') ∧ ∀ y H', (Itl K a).yld i H y H' → gTup K 2 (gCons (gName 2) (gCons (gName 3) gNil)) y σ H' fun σ2 H2 => t_turn K { nx := N, rt := Q, ct := N, bk := tSeq (tRet (tVar 1)) tNext { nx := fun _ H' => Q .non H', rt := Q } } σ2 H2)) E r0) →
            spR C 1 m_pieces ([u0] ++ []) H1 _ E := fun r0 s0 hr hk => ⟨T, G1, [.str x], s, r0, s0, w1, .cons d1 .nil, rfl, hr, hk⟩
        split at hm
        · rename_i items s1 h1
          refine call _ _ h1 fun G2 H2 x2 w2 z dz => ?_
          obtain ⟨a, xs, rfl, ga, hx⟩ := dz.lst_
          split at hm
          · rename_i ps hps
            split at hm
            · rename_i hlen
              cases hm
              have ei := prs_of hps
              subst ei
              have x12 := ext0 (x1.trans w1 x2)
              have hp1 : H1 p = some (.lst []) := x1.same p _ upd_same tp
              have gp1 : G1 p = none := x1.fresh p _ upd_same gp
              have hp2 : H2 p = some (.lst []) := x2.same p _ hp1 tp
              have gp2 : G2 p = none := x2.fresh p _ hp1 gp1
              have xl : xs.length = ps.length := by rw [hx.length, List.length_map]
              refine ⟨a, rfl, ⟨xs, SqL.of (w2.sub _ _ ga)⟩, for_list (K := K) (a := a) (xs := xs) (g := gTup K 2 (gCons (gName 2) (gCons (gName 3) gNil))) (tb := t_turn K) (D := { nx := tSeq (tRet (tVar 1)) tNext { nx := fun _ H' => Q .non H', rt := Q }, rt := Q }) (fun i σ H' => ∃ v2 v3, σ = [some (.str x), some (.ref p), v2, v3] ∧ RInv T G2 H2 s' p ((ps.take i).foldl rowStep ([], none)) H') ⟨none, none, rfl, G2, Same.refl _, fun _ _ _ n => n, fun _ _ e _ _ => e, w2, gp2, tp, [], .nil, hp2⟩
                (fun i σ H' _ ⟨_, _, _, j⟩ => ?_) ?_ ?_⟩
              · obtain ⟨G3, j⟩ := j
                exact SqL.of (j.wd.sub _ _ (j.up _ _ ga))
              · rintro i y σ H' hi ⟨v2, v3, rfl, j⟩
                obtain ⟨d, hd, qd⟩ := hx.got hi
                rw [List.getElem?_map] at hd
                obtain ⟨⟨pc, ln⟩, hpc, e2⟩ := Option.map_eq_some_iff.mp hd
                subst e2
                have lt : i < ps.length := (List.getElem?_eq_some_iff.mp hpc).1
                have tk : ps.take (i + 1) = ps.take i ++ [(pc, ln)] := by rw [List.take_succ, hpc] <;> rfl
                have tl : (ps.take i).length ≤ i := by rw [List.length_take]; omega
                unfold encPr at qd
                cases qd with
                | @tup t ys _ gt ht =>
                  cases ht with
                  | cons q1 r1 =>
                    cases r1 with
                    | cons q2 r2 =>
                      cases r2
                      cases q1
                      cases q2
                      obtain ⟨G3, j3⟩ := id j
                      refine ⟨t, _, rfl, SqT.of (j3.wd.sub _ _ (j3.up _ _ gt)), rfl, _, _, rfl, _, _, rfl, rfl, ?_⟩
                      refine row_turn ?_ (none_nil _) j (fun r hr => ?_) fun H3 j2 => ⟨_, _, rfl, ?_⟩
                      · have := rows_le (ps.take i) ([], none)
                        have z : (rowsAll (([], none) : RS)).length = 0 := rfl
                        omega
                      · have := mid_len (cur_len (ps.take i) ([], none) 0 (fun r e => by cases e)) r hr
                        omega
                      · rw [tk, List.foldl_append]
                        exact j2
              · rintro σ H' ⟨v2, v3, rfl, j⟩
                rw [xl, List.take_length] at j
                obtain ⟨G3, us, sg, w3, gp3, rw3, hp3⟩ := j.look
                obtain ⟨G4, j4⟩ := j.freeze
                obtain ⟨us4, h5, h6⟩ := j4.rows
                have h6 : H' p = some (.lst us4) := h6
                have sg4 := same_upd (.lst us4) j4.gp
                have w5 : Wd T s' (upd G4 p (.lst us4)) H' := ⟨fun b o e => by
                  by_cases c : b = p
                  · rw [c, upd_same] at e
                    rw [c, h6]
                    exact e
                  · rw [upd_ne c] at e
                    exact j4.wd.sub b o e, fun z hz => ⟨(j4.wd.tin z hz).1, by
                  have n : z ≠ p := fun c => tp (by rw [← c]; exact hz)
                  rw [upd_ne n]
                  exact (j4.wd.tin z hz).2⟩⟩
                refine ⟨_, rfl, ?_⟩
                have xx : Ext T G H (upd G4 p (.lst us4)) H' := ⟨fun b o e n => j4.same b o (x12.same b o e n) n (fun z => by rw [z, hp] at e; cases e), (x12.up.trans j4.up).trans sg4, fun b o e n => by
                  have nb : b ≠ p := fun z => by
                    rw [z, hp] at e
                    cases e
                  rw [upd_ne nb]
                  by_cases c : T.tin = some b
                  · exact (j4.wd.tin b c).2
                  · exact j4.fresh b o (x12.same b o e c) (x12.fresh b o e n)⟩
                exact k _ _ xx w5 _ (.inl (.lst upd_same (DqAll.mono sg4 _ _ h5)))
            · cases hm
          · cases hm
        · rename_i i s1 h1
          cases hm
          refine call _ _ h1 fun G2 H2 x2 w2 => ?_
          exact k G2 H2 (ext0 (x1.trans w1 x2)) w2
        · cases hm
  · cases hm
theorem ok_rows_of_pieces {C fI : Addr} (T : Tx K mg) (B : Mr.BadTxt P K mg C fI) : FnOk P w K mg base (L2.CX P w) 4 T.a_rows_of_pieces T.d_rows_of_pieces ["text"] (spR C 1 m_rows_of_pieces) := by
  refine T.F_rows_of_pieces.okX sc_rows_of_pieces (fun vs H Q E h => ?_) (fun cdv A outer s H vs Q E hr h => ⟨t_rows K C E, ?_, rows_run h⟩)
  · obtain ⟨T, G, ds, s, d, s', w, dv, hl, _⟩ := h
    exact hl
  · exact pss_cons (ps_set (i := 1) sc_rows_of_pieces.nd rfl (Or.inl rfl) (pe_lst pa_nil))
      (pss_cons (ps_for (passes_of rfl) rfl (pi_list (pe_call (ok_pieces T B) (hr.mono (by decide)) rfl T.g_pieces T.F_pieces.kp (b_pieces T.F_pieces) .nil passR (sa_cons (sv 0) sa_nil)))
          (pg_tup rfl (pgs_cons (pg_name (i := 2) sc_rows_of_pieces.nd rfl (Or.inl rfl)) (pgs_cons (pg_name (i := 3) sc_rows_of_pieces.nd rfl (Or.inl rfl)) pgs_nil)))
          (pss_cons (ps_if (st_w (sw_or (st_cmp (op_eqQ hr.units) (sv 1) (se_lst sa_nil)) (sw_oneO (st_cmp (op_neQ hr.units) (se_ix ix_D (se_ix ix_D (sv 1) (se_un un_negD se_int)) se_int) (sv 3)))))
              (pss_cons (ps_expr (pe_bm PySem.F.plainAttrs_list PySem.F.slot_list_append PySem.F.type_list_append mt_append (pe_var rfl (Or.inl rfl)) (pa_cons (pe_tup (pa_cons (pe_var rfl (Or.inl rfl)) (pa_cons (pe_lst pa_nil) pa_nil))) pa_nil))) pss_nil) pss_nil)
            (pss_cons (ps_expr (pe_bm PySem.F.plainAttrs_list PySem.F.slot_list_append PySem.F.type_list_append mt_append (pe_ix ix_tup (pe_ix ix_list (pe_var rfl (Or.inl rfl)) (pe_un un_neg pe_int) (fun _ _ => rfl)) pe_int (fun _ _ => rfl)) (pa_cons (pe_var rfl (Or.inl rfl)) pa_nil))) pss_nil)))
      (pss_cons (ps_ret (pe_var rfl (Or.inl rfl))) pss_nil))
end
end Md
-- Me7
set_option Elab.async false
set_option linter.all false
set_option maxRecDepth 100000
set_option maxHeartbeats 4000000
namespace Md
open PySem PySem.Spec PyProof.Rows L2
set_option autoImplicit false
section
variable {P : Program} {w : World} {K : PySem.W.Frag} {mg : Str → Option Value} {base : Heap}
/-! read_sheet: slots text rows field edges plan line row own; level 6 -/
abbrev N_read_sheet : List Str := ["text", "rows", "field", "edges", "plan", "line", "row", "own"]
theorem sc_read_sheet : FnScope N_read_sheet ["text"] (defScope s_read_sheet) := ⟨rfl, rfl, rfl, by decide +kernel, rfl, by decide +kernel, by decide +kernel⟩
abbrev c_read_sheet : mX := (mSeqX (mSetR 1 m_rows_of_pieces (mCons (mVar 0) mNil)) (mSeqX (mIfX (fz (mT (m2 dEq (mVar 1) (mF dLst mNil)))) (mRaise (mC (.int 0))) mNextX) (mSeqX (mPar3X 2 3 4 (mConsX (mUpE (mCall m_pairs_told (mCons (m2 dIx (m2 dIx (mVar 1) (mC (.int 0))) (mC (.int 1))) (mCons (mC (.str ("field" : Str))) mNil)))) (mConsX (mNewL mNil) (mConsX (mNewL mNil) mNilX)))) (mSeqX (mIfX (fz (mBor (mT (m2 dIsN (mVar 2) (mC .none))) (mBnot (mT (mCall m_is_field (mCons (mVar 2) mNil)))))) (mRaise (m2 dIx (m2 dIx (mVar 1) (mC (.int 0))) (mC (.int 0)))) mNextX) (mSeqX (mForX (iL (mSl (mVar 1) (oSome (mC (.int 1))) oNone)) (aTup 2 (aCons (aName 5) (aCons (aName 6) aNil))) (mSeqX (mIfX (fz (mBand (mT (m2 dEq (m2 dIx (mVar 6) (mC (.int 0))) (mC (.str ("edge" : Str))))) (mT (m2 dEq (mVar 4) (mF dLst mNil))))) (mSeqX (mSetX 7 (mThaw (mCall m_edge_told (mCons (mVar 6) (mCons (mVar 3) mNil))))) (mApp 3 (mVar 7))) (mSeqX (mUp (mAsg (mCall m_turn_told (mCons (mVar 6) mNil)) (aName 7))) (mApp 4 (mVar 7)))) (mIfX (fz (mT (m2 dIsN (mVar 7) (mC .none)))) (mRaise (mVar 5)) mNextX))) (mRetT (mF dTup (mCons (mVar 2) (mCons (mF dTuple (mCons (mVar 3) mNil)) (mCons (mF dTuple (mCons (mVar 4) mNil)) mNil))))))))))
def m_read_sheet : MfR := mFnX 8 1 c_read_sheet
theorem len_read_sheet {ds : List Dt} {s : Tn} {r : (Dt ⊕ Int) × Tn} (h : m_read_sheet ds s = some r) : ds.length = 1 := mFnX_len h
theorem ok_read_sheet {C fI : Addr} (T : Tx K mg) (B : Mr.BadTxt P K mg C fI) : FnOk P w K mg base (L2.CX P w) 6 T.a_read_sheet T.d_read_sheet ["text"] (spR C 1 m_read_sheet) := fn_simR T.F_read_sheet sc_read_sheet fun cdv A outer s H E hr => by
  exact (sxs_cons (sx_setR 1 sc_read_sheet.nd (ok_rows_of_pieces T B) (hr.mono (by decide)) T.g_rows_of_pieces T.F_rows_of_pieces.kp (b_rows_of_pieces T.F_rows_of_pieces) passR (fun _ _ _ h => len_rows_of_pieces h) (sa_cons (sv 0) sa_nil)) (sxs_cons (sx_if (stx (st_cmp (op_eqQ hr.units) (sv 1) (se_lst sa_nil))) (sxs_one (sx_raise B hr (takes_of rfl rfl rfl rfl) se_int)) sxs_nil) (sxs_cons (sx_par3 2 3 4 sc_read_sheet.nd (sax_cons (sex_up (se_call (ok_pairs_told T) (hr.mono (by decide)) T.g_pairs_told T.F_pairs_told.kp (b_pairs_told T.F_pairs_told) pass0 (fun _ _ _ h => len_pairs_told h) (sa_cons (se_ix ix_D (se_ix ix_D (sv 1) se_int) se_int) (sa_cons (se_globS T.k_FIELD) sa_nil)))) (sax_cons (sex_newL sa_nil) (sax_cons (sex_newL sa_nil) sax_nil)))) (sxs_cons (sx_if (stx (st_w (sw_or (st_cmp op_isND (sv 2) se_non) (sw_oneO (st_not (st_val (se_call (ok_is_field T) (hr.mono (by decide)) T.g_is_field T.F_is_field.kp (b_is_field T.F_is_field) pass0 (fun _ _ _ h => len_is_field h) (sa_cons (sv 2) sa_nil)))))))) (sxs_one (sx_raise B hr (takes_of rfl rfl rfl rfl) (se_ix ix_D (se_ix ix_D (sv 1) se_int) se_int))) sxs_nil) (sxs_cons (sx_for (passes_of rfl) rfl (si_list (se_slice (sv 1) (so_some se_int) so_none)) (sg_tup rfl (sgs_cons (sg_name 5 sc_read_sheet.nd rfl (by first | exact Or.inl rfl | exact Or.inr rfl)) (sgs_cons (sg_name 6 sc_read_sheet.nd rfl (by first | exact Or.inl rfl | exact Or.inr rfl)) sgs_nil))) (sxs_cons (sx_if (stx (st_w (sw_and (st_cmp (op_eqQ hr.units) (se_ix ix_D (sv 6) se_int) (se_globS T.k_EDGE)) (sw_one (st_cmp (op_eqQ hr.units) (sv 4) (se_lst sa_nil)))))) (sxs_cons (sx_set 7 sc_read_sheet.nd (sex_thaw (se_call (ok_edge_told T) (hr.mono (by decide)) T.g_edge_told T.F_edge_told.kp (b_edge_told T.F_edge_told) pass0 (fun _ _ _ h => len_edge_told h) (sa_cons (sv 6) (sa_cons (sv 3) sa_nil))))) (sxs_one (sx_append 3 (sv 7)))) (sxs_cons (sx_up (ss_set 7 sc_read_sheet.nd (se_call (ok_turn_told T) (hr.mono (by decide)) T.g_turn_told T.F_turn_told.kp (b_turn_told T.F_turn_told) pass0 (fun _ _ _ h => len_turn_told h) (sa_cons (sv 6) sa_nil)))) (sxs_one (sx_append 4 (sv 7))))) (sxs_one (sx_if (stx (st_cmp op_isND (sv 7) se_non)) (sxs_one (sx_raise B hr (takes_of rfl rfl rfl rfl) (sv 5))) sxs_nil)))) (sxs_one (sx_retT (se_tup (sa_cons (sv 2) (sa_cons (se_callT cr_tupleD T.n_tuple bt_tuple (sa_cons (sv 3) sa_nil)) (sa_cons (se_callT cr_tupleD T.n_tuple bt_tuple (sa_cons (sv 4) sa_nil)) sa_nil)))))))))))
end
end Md
-- Mh1
set_option Elab.async false
set_option linter.all false
set_option maxRecDepth 100000
set_option maxHeartbeats 4000000
/-! isinstance(slip, ValueError) of a BadText that the suite holds; _law_heard. -/
namespace Mr
open PySem PySem.W PySem.Calls PyProof.Rows PySem.HandSPX
set_option autoImplicit false
section
variable {prog : Program} {w : World} {A : Around} {E : Value → Shared → Prop} {s : Shared} {K : Frag} {C a : Addr} {oe : Obj} {od : Option Obj}
theorem isi_VE (veC : subIn K (.ref C) (.type "ValueError") = some true) (X : K.In s.heap) (I : InstAt s.heap a oe C od) {Q : Value → Shared → Prop} (h : Q (.bool true) s) : wpAny (model prog w) A (call (.builtin "isinstance") [.ref a, .type "ValueError"]) Q E s := by
  refine call_isinstance (S := fun _ R t => (K.In t.heap ∧ InstAt t.heap a oe C od) ∧ R (.ok (.ret (.bool true))) t) (fun P2 w2 B R t ht => ?_) ⟨⟨X, I⟩, h⟩
  obtain ⟨⟨X1, I1⟩, hq⟩ := ht
  refine isinstance_outer ?_ (fun z => nomatch z)
  obtain ⟨h0, g, d, tt, os⟩ := t
  have look := I1.type (M := model P2 w2)
  have sub : Looks (model P2 w2) h0 (isInstance (.ref a) (.type "ValueError")) true := look.andThen (looks_subIn X1 veC)
  have hty : Looks (model P2 w2) h0 (typeOf (.type "ValueError")) (.type "type") := Looks.of_pure PySem.OEX.typ_VE
  have his : Looks (model P2 w2) h0 (isType (.type "ValueError")) true := Looks.of_pure rfl
  unfold Builtin.«isinstance.nested»
  refine wpAny_bind (look.at ?_)
  rw [if_neg (show ¬ ((Value.ref C == Value.type "ValueError") = true) from Bool.false_ne_true)]
  refine wpAny_bind (hty.at ?_)
  rw [if_pos (by decide)]
  k_delta "plainIsInstance"
  refine wpAny_bind (wpAny_bind (his.at ?_))
  simp only [Bool.not_true, Bool.false_eq_true, if_false]
  refine wpAny_bind (sub.at ?_)
  first
    | exact wpAny_pure (wpAny_pure hq)
    | (simp only [if_true]; first | exact wpAny_pure (wpAny_pure hq) | exact wpAny_pure hq | exact wpAny_bind (wpAny_pure (wpAny_pure hq)))
end
end Mr
namespace Md
open PySem PySem.Spec PyProof.Rows L2
set_option autoImplicit false
section
variable {X : Cx} {C fI a : Addr} {oe : Obj} {cls : Value} {d : Option Addr} {pn : List (Addr × Obj)}
/-- isinstance(e, ValueError), e the BadText that the suite holds -/
def tIsV (C a : Addr) (cls : Value) (d : Option Addr) (te : TE) : TE := fun σ H Q => te σ H fun x H1 => x = .ref a ∧ cls = .ref C ∧ (∃ (dd : Addr) (v : V), d = some dd ∧ H1 dd = some (.xd [(("line" : Str), v)])) ∧ Q (.bl true) H1
theorem pe_isV {e : Expr} {te : TE} {p p2 pos : Pos} (T : Mr.BadTxt X.prog X.K X.mg C fI) (hz : Zc cls d oe) (hf : ∃ vs, oe.data = .fields vs) (he : PE (X.suite a ((a, oe) :: pn)) e te) (hg : Gl X "isinstance") (hm : X.mg "isinstance" = none) (hg2 : Gl X "ValueError") (hm2 : X.mg "ValueError" = none)
    (bi : bootBuiltins "isinstance" = some (.builtin "isinstance")) (bv : bootBuiltins "ValueError" = some (.type "ValueError"))
    (hs : starEach [e, .Name "ValueError" p2] X.env = (false, eval e X.env) :: starEach [.Name "ValueError" p2] X.env := by rfl) (hs2 : starEach [Expr.Name "ValueError" p2] X.env = (false, eval (.Name "ValueError" p2) X.env) :: starEach [] X.env := by rfl)
    (hpl : (backTo pos (starEach [Expr.Name "ValueError" p2] X.env)).any (·.1) = false := by rfl) :
    PE (X.suite a ((a, oe) :: pn)) (.Call (.Name "isinstance" p) [e, .Name "ValueError" p2] [] pos) (tIsV C a cls d te) := by
  refine ⟨fun pins s σ H Q I h => ?_⟩
  refine wpAny_Call_Name_kw (ld_blt I hg hm bi ?_ (by decide) (by decide))
  refine PyProof.Rows.callWith_builtin1 ?_ hs hpl
  rw [show starEach [e, .Name "ValueError" p2] (X.suite a ((a, oe) :: pn)).env = _ from hs]
  refine Calls.spliced_cons (thn (he.run pins s σ H _ I h) fun u s1 ⟨x, H1, I1, rx, ex, ec, ⟨dd, v, ed, ea⟩, q⟩ => ?_)
  rw [show starEach [Expr.Name "ValueError" p2] (X.suite a ((a, oe) :: pn)).env = _ from hs2]
  refine Calls.spliced_cons (ld_blt I1 hg2 hm2 bv (Calls.spliced_nil ?_) (by decide) (by decide))
  subst ex ec ed
  obtain rfl : u = Value.ref a := rx
  obtain ⟨hget, _⟩ := I1.pin (a, oe) (List.mem_append_left _ List.mem_cons_self)
  obtain ⟨vs, hd⟩ := hf
  have hx : ObjOk X.prog X.w H1 s1.heap dd (.xd [(("line" : Str), v)]) := I1.hok dd _ ea
  obtain ⟨mA, hns, hr⟩ := hx
  obtain ⟨od, ho, hl⟩ := lookIn_ns hns
  have J : PySem.W.InstAt s1.heap a oe C (some od) := ⟨hget, hz.1, by unfold PySem.W.notCls; rw [hd] <;> rfl, by rw [hz.2]; exact ho⟩
  exact Mr.isi_VE T.veC I1.kIn J ⟨.bl true, H1, I1, rfl, q⟩
end
theorem spM_none {k : Nat} {vs : List V} {H : Hp} {Q : VK} {E : XK} (h : spM k (fun _ _ => none) vs H Q E) : False := by
  obtain ⟨_, _, _, _, _, _, _, _, _, hm, _⟩ := h
  cases hm
def m_law_heard : Mf := fun ds s => match ds with
  | [.str x] => match m_read_sheet [.str x] s with
    | some (.inl d, s1) => some (d, s1)
    | some (.inr i, s1) => some (.list [.int i, .bool true], s1)
    | none => none
  | _ => none
theorem len_law_heard {ds : List Dt} {s : Tn} {r : Dt × Tn} (h : m_law_heard ds s = some r) : ds.length = 1 := by
  unfold m_law_heard at h
  split at h
  · rfl
  · cases h
section
variable {P : Program} {w : World} {K : PySem.W.Frag} {mg : Str → Option Value} {base : Heap}
abbrev N_law_heard : List Str := ["_law_text_so", "slip_so"]
theorem sc_law_heard : FnScope N_law_heard ["_law_text_so"] (defScope s_law_heard) := ⟨rfl, rfl, rfl, by decide +kernel, rfl, by decide +kernel, by decide +kernel⟩
abbrev t_suite (C : Addr) : Addr → Value → Option Addr → TS := fun a cls d => tSeq (tRet (tLst (tCons (tLine C a cls d (tVar 1)) (tCons (tIsV C a cls d (tVar 1)) tNil)))) tNext
abbrev t_heard (K : PySem.W.Frag) (C : Addr) : TS := tSeq (fun D σ H => tSeq (tRet (tCallS (spR C 1 m_read_sheet) (WE (wAs K (.ref C) 1 (t_suite C) (fun _ _ _ _ => False) D)) (SA (mCons (mVar 0) mNil)))) tNext D σ H) tNext
theorem heard_run {C fI : Addr} {P : Program} (B : Mr.BadTxt P K mg C fI) {vs : List V} {H : Hp} {Q : VK} {E : XK} (h : spM 1 m_law_heard vs H Q E) : t_heard K C { nx := fun _ H' => Q .non H', rt := Q } (L2.start N_law_heard vs) H := by
  obtain ⟨T, G, ds, s, d, s', wd, dv, hl, hm, k⟩ := h
  unfold m_law_heard at hm
  split at hm
  · rename_i x
    cases dv with
    | @cons v0 _ vr _ d0 dn =>
      cases dn
      have ev := d0.str_
      subst ev
      have eo : EnvOk T G [some (.str x), none] [some (.str x), none] := ⟨rfl, fun j d e => by
        match j, e with
        | 0, e =>
          cases e
          exact ⟨_, rfl, .inl (.str _)⟩
        | 1, e => cases e
        | j + 2, e => simp at e⟩
      show SA (mCons (mVar 0) mNil) [some (.str x), none] H _
      refine SA.seq (d := [.str x]) wd eo rfl fun G1 H1 ws x1 w1 e1 dv1 => ?_
      cases dv1 with
      | @cons u0 _ ur _ d1 dn1 =>
        cases dn1
        split at hm
        · rename_i z s1 h1
          cases hm
          exact ⟨T, G1, [.str x], s, _, s', w1, .cons d1 .nil, rfl, h1, fun G2 H2 x2 w2 v dv => k G2 H2 v (x1.trans w1 x2) w2 dv⟩
        · rename_i i s1 h1
          cases hm
          refine ⟨T, G1, [.str x], s, _, s', w1, .cons d1 .nil, rfl, h1, fun G2 H2 x2 w2 => fun dd hdd => ?_⟩
          refine ⟨true, B.te, fun _ a0 ha0 => ?_, fun q => Bool.noConfusion q⟩
          refine ⟨_, rfl, rfl, rfl, dd, _, rfl, upd_same, _, rfl, rfl, rfl, ⟨dd, _, rfl, upd_same⟩, by show 2 ≤ sizeLine; rw [sizeLine_is]; omega, fun p hp => ?_⟩
          have np : p ≠ dd := fun z => by
            rw [z, upd_same] at hp
            cases hp
          have hp2 : H2 p = none := by
            rw [upd_ne np] at hp
            exact hp
          have gd := w2.free hdd
          have gp := w2.free hp2
          have sg := same_upd (.lst [V.int i, .bl true]) gp
          refine k (upd G2 p (.lst [.int i, .bl true])) _ _ ((x1.trans w1 x2).trans w2 ⟨fun b o e n => ?_, sg, fun b o e n => ?_⟩) ⟨fun b o e => ?_, fun q hq => ?_⟩ (.inl (.lst upd_same (.cons (.int _) (.cons (.bl _) .nil))))
          · rw [upd_ne (ne_of_none e hp2), upd_ne (ne_of_none e hdd)]
            exact e
          · rw [upd_ne (ne_of_none e hp2)]
            exact n
          · by_cases c : b = p
            · rw [c, upd_same] at e ⊢
              exact e
            · rw [upd_ne c] at e ⊢
              rw [upd_ne (ne_of_none (w2.sub b o e) hdd)]
              exact w2.sub b o e
          · obtain ⟨a1, a2⟩ := w2.tin q hq
            refine ⟨?_, ?_⟩
            · rw [upd_ne (ne_of_none a1 hp2), upd_ne (ne_of_none a1 hdd)]
              exact a1
            · rw [upd_ne (ne_of_none a1 hp2)]
              exact a2
        · cases hm
  · cases hm
theorem bt_VE : bootBuiltins "ValueError" = some (.type "ValueError") := by decide +kernel
theorem ok_law_heard {C fI : Addr} (T : Tx K mg) (B : Mr.BadTxt P K mg C fI) (nV : mg "ValueError" = none) : FnOk P w K mg base CX0 8 T.a_law_heard T.d_law_heard ["_law_text_so"] (spM 1 m_law_heard) := by
  refine T.F_law_heard.ok sc_law_heard (fun vs H Q E h => ?_) (fun cdv A outer s H vs Q E hr h => ⟨t_heard K C, ?_, heard_run B h⟩)
  · obtain ⟨T, G, ds, s, d, s', w, dv, hl, _⟩ := h
    exact hl
  · exact pss_cons (ps_try_as (i := 1) (tb := fun W => tSeq (tRet (tCallS (spR C 1 m_read_sheet) (WE W) (SA (mCons (mVar 0) mNil)))) tNext) (ts := t_suite C) (Wout := fun _ _ _ _ => False) rfl rfl sc_law_heard.nd rfl rfl ⟨rfl, by decide, Or.inl B.gC⟩ takes0
          (fun W pn xe tk _ => pss_cons (ps_ret (pe_callS (ok_read_sheet T B) (hr.mono (by decide)) rfl T.g_read_sheet T.F_read_sheet.kp (b_read_sheet T.F_read_sheet) (fun σ => passAt tk σ) (sa_cons (sv 0) sa_nil))) pss_nil)
          (fun a oe cls d pn hz hf => pss_cons (ps_ret (pe_lst (pa_cons (pe_line B hz hf (pe_var rfl (Or.inl rfl))) (pa_cons (pe_isV B hz hf (pe_var rfl (Or.inl rfl)) rfl T.n_isinstance rfl nV bt_isinstance bt_VE) pa_nil)))) pss_nil)) pss_nil
end
end Md
-- Me8
set_option Elab.async false
set_option linter.all false
set_option maxRecDepth 100000
set_option maxHeartbeats 4000000
namespace Md
open PySem PySem.Spec PyProof.Rows L2
set_option autoImplicit false
section
variable {P : Program} {w : World} {K : PySem.W.Frag} {mg : Str → Option Value} {base : Heap}
/-! law_same: slots got due mine its -/
abbrev N_law_same : List Str := ["_law_got", "_law_due", "_law_mine", "_law_its"]
theorem sc_law_same : FnScope N_law_same ["_law_got", "_law_due"] (defScope s_law_same) := ⟨rfl, rfl, rfl, by decide +kernel, rfl, by decide +kernel, by decide +kernel⟩
abbrev c_law_same (mf : Mf) : mS := (mSeq (mIfS (mT (m1 dIsSeq (mVar 1))) (mSeq (mIfS (mBor (mT (m2 dNe (m1 dIsList (mVar 0)) (m1 dIsList (mVar 1)))) (mT (m2 dNe (m1 dIsTup (mVar 0)) (m1 dIsTup (mVar 1))))) (mRet (mC (.bool false))) mNext) (mRet (mVand (m2 dEq (mF dLen (mCons (mVar 0) mNil)) (mF dLen (mCons (mVar 1) mNil))) (mF dAll (mCons (mLc (iZp (mCons (mVar 0) (mCons (mVar 1) mNil))) (aTup 2 (aCons (aName 2) (aCons (aName 3) aNil))) [2, 3] (mCall mf (mCons (mVar 2) (mCons (mVar 3) mNil)))) mNil))))) mNext) (mSeq (mIfS (mBor (mT (m2 dIsN (mVar 1) (mC .none))) (mT (m1 dIsBS (mVar 1)))) (mRet (mVand (m2 dEq (mVar 0) (mVar 1)) (mVand (m2 dEq (m1 dIsBool (mVar 0)) (m1 dIsBool (mVar 1))) (m2 dEq (m2 dIsN (mVar 0) (mC .none)) (m2 dIsN (mVar 1) (mC .none)))))) mNext) (mRet (mVand (m1 dIsInt (mVar 0)) (mVand (m1 dNot (m1 dIsBool (mVar 0))) (m2 dEq (mVar 0) (mVar 1)))))))
def m_law_same : Nat → Mf
  | 0 => fun _ _ => none
  | n + 1 => mFn 4 2 (c_law_same (m_law_same n))
theorem len_law_same : ∀ {n : Nat} {ds : List Dt} {s : Tn} {r : Dt × Tn}, m_law_same n ds s = some r → ds.length = 2
  | 0, _, _, _, h => by cases h
  | _ + 1, _, _, _, h => mFn_len h
theorem ok_law_same (T : Tx K mg) : ∀ n : Nat, FnOk P w K mg base CX0 (n + 1) T.a_law_same T.d_law_same ["_law_got", "_law_due"] (spM 2 (m_law_same n))
  | 0 => ⟨fun _ _ _ _ h => (spM_none h).elim, fun _ _ _ _ _ _ _ _ _ _ _ _ _ h => (spM_none h).elim⟩
  | n + 1 => by
    have ok0 := ok_law_same T n
    exact fn_sim T.F_law_same sc_law_same fun cdv A outer s H E hr => by
      exact (sss_cons (ss_if (st_val (se_isi2 isi_seq (sv 1) T.n_isinstance T.n_list T.n_tuple bt_list bt_tuple)) (sss_cons (ss_if (st_w (sw_or (st_cmp (op_neQ hr.units) (se_isi isi_list (sv 0) T.n_isinstance T.n_list bt_list) (se_isi isi_list (sv 1) T.n_isinstance T.n_list bt_list)) (sw_oneO (st_cmp (op_neQ hr.units) (se_isi isi_tup (sv 0) T.n_isinstance T.n_tuple bt_tuple) (se_isi isi_tup (sv 1) T.n_isinstance T.n_tuple bt_tuple))))) (sss_one (ss_ret se_bl)) sss_nil) (sss_one (ss_ret (sv_and (se_cmp (op_eqQ hr.units) (se_callB cr_len T.n_len bt_len (sa_cons (sv 0) sa_nil)) (se_callB cr_len T.n_len bt_len (sa_cons (sv 1) sa_nil))) (sv_one (se_callB (cr_allD rfl) T.n_all bt_all (sa_cons (se_lc (own := [("_law_mine", 2), ("_law_its", 3)]) sc_law_same.nd (si_zip T.n_zip (sa_cons (sv 0) (sa_cons (sv 1) sa_nil))) (blkOk_by (N := N_law_same) (sc := defScope s_law_same) (by decide +kernel)) (fun _ _ _ _ _ => (sg_tup rfl (sgs_cons (sg_name 2 sc_law_same.nd rfl (by first | exact Or.inl rfl | exact Or.inr rfl)) (sgs_cons (sg_name 3 sc_law_same.nd rfl (by first | exact Or.inl rfl | exact Or.inr rfl)) sgs_nil)))) (fun _ _ _ _ _ => (se_call ok0 hr T.g_law_same T.F_law_same.kp (b_law_same T.F_law_same) pass0 (fun _ _ _ h => len_law_same h) (sa_cons (sv 2) (sa_cons (sv 3) sa_nil))))) sa_nil))))))) sss_nil) (sss_cons (ss_if (st_w (sw_or (st_cmp op_isND (sv 1) se_non) (sw_oneO (st_val (se_isi2 isi_bs (sv 1) T.n_isinstance T.n_bool T.n_str bt_bool bt_str))))) (sss_one (ss_ret (sv_and (se_cmp (op_eqQ hr.units) (sv 0) (sv 1)) (sv_and (se_cmp (op_eqQ hr.units) (se_isi isi_bool (sv 0) T.n_isinstance T.n_bool bt_bool) (se_isi isi_bool (sv 1) T.n_isinstance T.n_bool bt_bool)) (sv_one (se_cmp (op_eqQ hr.units) (se_cmp op_isND (sv 0) se_non) (se_cmp op_isND (sv 1) se_non))))))) sss_nil) (sss_one (ss_ret (sv_and (se_isi isi_int (sv 0) T.n_isinstance T.n_int bt_int) (sv_and (sv_not (se_isi isi_bool (sv 0) T.n_isinstance T.n_bool bt_bool)) (sv_one (se_cmp (op_eqQ hr.units) (sv 0) (sv 1)))))))))
end
end Md
-- Me9
set_option Elab.async false
set_option linter.all false
set_option maxRecDepth 100000
set_option maxHeartbeats 4000000
namespace Md
open PySem PySem.Spec PyProof.Rows L2
set_option autoImplicit false
section
variable {P : Program} {w : World} {K : PySem.W.Frag} {mg : Str → Option Value} {base : Heap}
/-! law_table_right: slots tin many_so text_so line_so due; level 10 -/
abbrev N_law_table_right : List Str := ["_law_tin", "_law_many_so", "_law_text_so", "_law_line_so", "_law_due"]
theorem sc_law_table_right : FnScope N_law_table_right ["_law_tin"] (defScope s_law_table_right) := ⟨rfl, rfl, rfl, by decide +kernel, rfl, by decide +kernel, by decide +kernel⟩
abbrev c_law_table_right : mS := (mSeq (mAsg (mCall m_law_take (mCons (mVar 0) (mCons (mC (.int 4)) mNil))) (aName 1)) (mSeq (mFor (iL (mCall m_law_faults mNil)) (aTup 2 (aCons (aName 2) (aCons (aName 3) aNil))) (mSeq (mAsg (mIf (mT (m2 dNe (mVar 2) (mC (.str ("" : Str))))) (m2 dAdd (mVar 1) (mVar 3)) (mC (.int 0))) (aName 4)) (mIfS (mBnot (mT (mCall (m_law_same 8) (mCons (mCall m_law_heard (mCons (m2 dAdd (m2 dRep (mC (.str ("\n" : Str))) (mVar 1)) (mVar 2)) mNil)) (mCons (mF dLst (mCons (mVar 4) (mCons (mC (.bool true)) mNil))) mNil))))) (mRet (mC (.bool false))) mNext))) (mRet (mC (.bool true)))))
def m_law_table_right : Mf := mFn 5 1 c_law_table_right
theorem len_law_table_right {ds : List Dt} {s : Tn} {r : Dt × Tn} (h : m_law_table_right ds s = some r) : ds.length = 1 := mFn_len h
theorem ok_law_table_right (T : Tx K mg) {C fI : Addr} (B : Mr.BadTxt P K mg C fI) (nV : mg "ValueError" = none) : FnOk P w K mg base CX0 10 T.a_law_table_right T.d_law_table_right ["_law_tin"] (spM 1 m_law_table_right) := fn_sim T.F_law_table_right sc_law_table_right fun cdv A outer s H E hr => by
  exact (sss_cons (ss_set 1 sc_law_table_right.nd (se_call (ok_law_take T) (hr.mono (by decide)) T.g_law_take T.F_law_take.kp (b_law_take T.F_law_take) pass0 (fun _ _ _ h => len_law_take h) (sa_cons (sv 0) (sa_cons se_int sa_nil)))) (sss_cons (ss_for PassesOwn.never rfl (si_list (se_call0 (ok_law_faults T) (hr.mono (by decide)) T.g_law_faults T.F_law_faults.kp (b_law_faults T.F_law_faults) pass0)) (sg_tup rfl (sgs_cons (sg_name 2 sc_law_table_right.nd rfl (by first | exact Or.inl rfl | exact Or.inr rfl)) (sgs_cons (sg_name 3 sc_law_table_right.nd rfl (by first | exact Or.inl rfl | exact Or.inr rfl)) sgs_nil))) (sss_cons (ss_set 4 sc_law_table_right.nd (se_ifExp (st_cmp (op_neQ hr.units) (sv 2) se_str) (se_op op_addD (sv 1) (sv 3)) se_int)) (sss_one (ss_if (st_not (st_val (se_call (ok_law_same T 8) (hr.mono (by decide)) T.g_law_same T.F_law_same.kp (b_law_same T.F_law_same) pass0 (fun _ _ _ h => len_law_same h) (sa_cons (se_call (ok_law_heard T B nV) (hr.mono (by decide)) T.g_law_heard T.F_law_heard.kp (b_law_heard T.F_law_heard) pass0 (fun _ _ _ h => len_law_heard h) (sa_cons (se_op op_addD (se_op op_repD se_str (sv 1)) (sv 2)) sa_nil)) (sa_cons (se_lst (sa_cons (sv 4) (sa_cons se_bl sa_nil))) sa_nil))))) (sss_one (ss_ret se_bl)) sss_nil)))) (sss_one (ss_ret se_bl))))
/-! law_right: slots tin own rows_so k kind_so bent_so text_so lines_so edges_so; level 10 -/
abbrev N_law_right : List Str := ["_law_tin", "_law_own", "_law_rows_so", "_law_k", "_law_kind_so", "_law_bent_so", "_law_text_so", "_law_lines_so", "_law_edges_so"]
theorem sc_law_right : FnScope N_law_right ["_law_tin"] (defScope s_law_right) := ⟨rfl, rfl, rfl, by decide +kernel, rfl, by decide +kernel, by decide +kernel⟩
abbrev c_law_right : mS := (mSeq (mAsg (mCall m_law_sheet (mCons (mVar 0) mNil)) (aName 1)) (mSeq (mAsg (mCall m_law_sheet_rows (mCons (mVar 1) mNil)) (aName 2)) (mSeq (mPar 3 4 (mCons (mCall m_law_take (mCons (mVar 0) (mCons (mF dLen (mCons (mVar 2) mNil)) mNil))) (mCons (mCall m_law_take (mCons (mVar 0) (mCons (mC (.int 3)) mNil))) mNil))) (mSeq (mAsg (mIf (mT (m2 dEq (mVar 4) (mC (.int 0)))) (m2 dAdd (m2 dIx (mVar 2) (mVar 3)) (mF dLst (mCons (mC (.str ("7" : Str))) mNil))) (mIf (mT (m2 dEq (mVar 4) (mC (.int 1)))) (mSl (m2 dIx (mVar 2) (mVar 3)) oNone (oSome (m1 dNeg (mC (.int 1))))) (mSl (m2 dIx (mVar 2) (mVar 3)) (oSome (mC (.int 1))) oNone))) (aName 5)) (mSeq (mAsg (mCall m_law_wide_text (mCons (mVar 0) (mCons (m2 dAdd (m2 dAdd (mSl (mVar 2) oNone (oSome (mVar 3))) (mF dLst (mCons (mVar 5) mNil))) (mSl (mVar 2) (oSome (m2 dAdd (mVar 3) (mC (.int 1)))) oNone)) mNil))) (aTup 2 (aCons (aName 6) (aCons (aName 7) aNil)))) (mSeq (mIfS (mBnot (mT (mCall (m_law_same 8) (mCons (mCall m_law_heard (mCons (mVar 6) mNil)) (mCons (mF dLst (mCons (m2 dIx (mVar 7) (mVar 3)) (mCons (mC (.bool true)) mNil))) mNil))))) (mRet (mC (.bool false))) mNext) (mSeq (mAsg (mCall m_law_wide_text (mCons (mVar 0) (mCons (mVar 2) mNil))) (aTup 2 (aCons (aName 6) (aCons (aName 7) aNil)))) (mSeq (mIfS (mBnot (mT (mCall (m_law_same 8) (mCons (mCall m_law_heard (mCons (m2 dAdd (mVar 6) (mC (.str ("\n\nturn =" : Str)))) mNil)) (mCons (mF dLst (mCons (m2 dAdd (m2 dCount (mVar 6) (mC (.str ("\n" : Str)))) (mC (.int 2))) (mCons (mC (.bool true)) mNil))) mNil))))) (mRet (mC (.bool false))) mNext) (mSeq (mAsg (m2 dAdd (mC (.int 1)) (mCall m_law_take (mCons (mVar 0) (mCons (mF dLen (mCons (mVar 2) mNil)) mNil)))) (aName 3)) (mSeq (mAsg (mCall m_law_wide_text (mCons (mVar 0) (mCons (mSl (mVar 2) oNone (oSome (mVar 3))) mNil))) (aTup 2 (aCons (aName 6) (aCons (aName 7) aNil)))) (mSeq (mAsg (mSl (m2 dIx (mVar 1) (mC (.int 1))) oNone (oSome (m2 dSub (mVar 3) (mC (.int 1))))) (aName 8)) (mSeq (mIfS (mBnot (mT (mCall (m_law_same 8) (mCons (mCall m_law_heard (mCons (mVar 6) mNil)) (mCons (mF dTup (mCons (m2 dIx (mVar 1) (mC (.int 0))) (mCons (mVar 8) (mCons (mSl (m2 dIx (mVar 1) (mC (.int 2))) oNone (oSome (mF dMax2 (mCons (mC (.int 0)) (mCons (m2 dSub (m2 dSub (mVar 3) (mC (.int 1))) (mF dLen (mCons (m2 dIx (mVar 1) (mC (.int 1))) mNil))) mNil))))) mNil)))) mNil))))) (mRet (mC (.bool false))) mNext) (mSeq (mIfS (mT (m2 dEq (m2 dIx (m2 dIx (mVar 2) (m2 dSub (mVar 3) (mC (.int 1)))) (mC (.int 0))) (mC (.str ("turn" : Str))))) (mRet (mC (.bool true))) mNext) (mSeq (mAsg (mCall m_law_wide_text (mCons (mVar 0) (mCons (m2 dAdd (mSl (mVar 2) oNone (oSome (mVar 3))) (mSl (mVar 2) (oSome (m2 dSub (mVar 3) (mC (.int 1)))) oNone)) mNil))) (aTup 2 (aCons (aName 6) (aCons (aName 7) aNil)))) (mRet (mCall (m_law_same 8) (mCons (mCall m_law_heard (mCons (mVar 6) mNil)) (mCons (mF dLst (mCons (m2 dIx (mVar 7) (mVar 3)) (mCons (mC (.bool true)) mNil))) mNil))))))))))))))))))
def m_law_right : Mf := mFn 9 1 c_law_right
theorem len_law_right {ds : List Dt} {s : Tn} {r : Dt × Tn} (h : m_law_right ds s = some r) : ds.length = 1 := mFn_len h
theorem ok_law_right (T : Tx K mg) {C fI : Addr} (B : Mr.BadTxt P K mg C fI) (nV : mg "ValueError" = none) : FnOk P w K mg base CX0 10 T.a_law_right T.d_law_right ["_law_tin"] (spM 1 m_law_right) := fn_sim T.F_law_right sc_law_right fun cdv A outer s H E hr => by
  exact (sss_cons (ss_set 1 sc_law_right.nd (se_call (ok_law_sheet T) (hr.mono (by decide)) T.g_law_sheet T.F_law_sheet.kp (b_law_sheet T.F_law_sheet) pass0 (fun _ _ _ h => len_law_sheet h) (sa_cons (sv 0) sa_nil))) (sss_cons (ss_set 2 sc_law_right.nd (se_call (ok_law_sheet_rows T) (hr.mono (by decide)) T.g_law_sheet_rows T.F_law_sheet_rows.kp (b_law_sheet_rows T.F_law_sheet_rows) pass0 (fun _ _ _ h => len_law_sheet_rows h) (sa_cons (sv 1) sa_nil))) (sss_cons (ss_par 3 4 sc_law_right.nd (sa_cons (se_call (ok_law_take T) (hr.mono (by decide)) T.g_law_take T.F_law_take.kp (b_law_take T.F_law_take) pass0 (fun _ _ _ h => len_law_take h) (sa_cons (sv 0) (sa_cons (se_callB cr_len T.n_len bt_len (sa_cons (sv 2) sa_nil)) sa_nil))) (sa_cons (se_call (ok_law_take T) (hr.mono (by decide)) T.g_law_take T.F_law_take.kp (b_law_take T.F_law_take) pass0 (fun _ _ _ h => len_law_take h) (sa_cons (sv 0) (sa_cons se_int sa_nil))) sa_nil))) (sss_cons (ss_set 5 sc_law_right.nd (se_ifExp (st_cmp (op_eqQ hr.units) (sv 4) se_int) (se_op op_addD (se_ix ix_D (sv 2) (sv 3)) (se_lst (sa_cons se_str sa_nil))) (se_ifExp (st_cmp (op_eqQ hr.units) (sv 4) se_int) (se_slice (se_ix ix_D (sv 2) (sv 3)) so_none (so_some (se_un un_negD se_int))) (se_slice (se_ix ix_D (sv 2) (sv 3)) (so_some se_int) so_none)))) (sss_cons (ss_asg (se_call (ok_law_wide_text T) (hr.mono (by decide)) T.g_law_wide_text T.F_law_wide_text.kp (b_law_wide_text T.F_law_wide_text) pass0 (fun _ _ _ h => len_law_wide_text h) (sa_cons (sv 0) (sa_cons (se_op op_addD (se_op op_addD (se_slice (sv 2) so_none (so_some (sv 3))) (se_lst (sa_cons (sv 5) sa_nil))) (se_slice (sv 2) (so_some (se_op op_addD (sv 3) se_int)) so_none)) sa_nil))) (sg_tup rfl (sgs_cons (sg_name 6 sc_law_right.nd rfl (by first | exact Or.inl rfl | exact Or.inr rfl)) (sgs_cons (sg_name 7 sc_law_right.nd rfl (by first | exact Or.inl rfl | exact Or.inr rfl)) sgs_nil)))) (sss_cons (ss_if (st_not (st_val (se_call (ok_law_same T 8) (hr.mono (by decide)) T.g_law_same T.F_law_same.kp (b_law_same T.F_law_same) pass0 (fun _ _ _ h => len_law_same h) (sa_cons (se_call (ok_law_heard T B nV) (hr.mono (by decide)) T.g_law_heard T.F_law_heard.kp (b_law_heard T.F_law_heard) pass0 (fun _ _ _ h => len_law_heard h) (sa_cons (sv 6) sa_nil)) (sa_cons (se_lst (sa_cons (se_ix ix_D (sv 7) (sv 3)) (sa_cons se_bl sa_nil))) sa_nil))))) (sss_one (ss_ret se_bl)) sss_nil) (sss_cons (ss_asg (se_call (ok_law_wide_text T) (hr.mono (by decide)) T.g_law_wide_text T.F_law_wide_text.kp (b_law_wide_text T.F_law_wide_text) pass0 (fun _ _ _ h => len_law_wide_text h) (sa_cons (sv 0) (sa_cons (sv 2) sa_nil))) (sg_tup rfl (sgs_cons (sg_name 6 sc_law_right.nd rfl (by first | exact Or.inl rfl | exact Or.inr rfl)) (sgs_cons (sg_name 7 sc_law_right.nd rfl (by first | exact Or.inl rfl | exact Or.inr rfl)) sgs_nil)))) (sss_cons (ss_if (st_not (st_val (se_call (ok_law_same T 8) (hr.mono (by decide)) T.g_law_same T.F_law_same.kp (b_law_same T.F_law_same) pass0 (fun _ _ _ h => len_law_same h) (sa_cons (se_call (ok_law_heard T B nV) (hr.mono (by decide)) T.g_law_heard T.F_law_heard.kp (b_law_heard T.F_law_heard) pass0 (fun _ _ _ h => len_law_heard h) (sa_cons (se_op op_addD (sv 6) se_str) sa_nil)) (sa_cons (se_lst (sa_cons (se_op op_addD (se_count (sv 6) se_str) se_int) (sa_cons se_bl sa_nil))) sa_nil))))) (sss_one (ss_ret se_bl)) sss_nil) (sss_cons (ss_set 3 sc_law_right.nd (se_op op_addD se_int (se_call (ok_law_take T) (hr.mono (by decide)) T.g_law_take T.F_law_take.kp (b_law_take T.F_law_take) pass0 (fun _ _ _ h => len_law_take h) (sa_cons (sv 0) (sa_cons (se_callB cr_len T.n_len bt_len (sa_cons (sv 2) sa_nil)) sa_nil))))) (sss_cons (ss_asg (se_call (ok_law_wide_text T) (hr.mono (by decide)) T.g_law_wide_text T.F_law_wide_text.kp (b_law_wide_text T.F_law_wide_text) pass0 (fun _ _ _ h => len_law_wide_text h) (sa_cons (sv 0) (sa_cons (se_slice (sv 2) so_none (so_some (sv 3))) sa_nil))) (sg_tup rfl (sgs_cons (sg_name 6 sc_law_right.nd rfl (by first | exact Or.inl rfl | exact Or.inr rfl)) (sgs_cons (sg_name 7 sc_law_right.nd rfl (by first | exact Or.inl rfl | exact Or.inr rfl)) sgs_nil)))) (sss_cons (ss_set 8 sc_law_right.nd (se_slice (se_ix ix_D (sv 1) se_int) so_none (so_some (se_op op_subD (sv 3) se_int)))) (sss_cons (ss_if (st_not (st_val (se_call (ok_law_same T 8) (hr.mono (by decide)) T.g_law_same T.F_law_same.kp (b_law_same T.F_law_same) pass0 (fun _ _ _ h => len_law_same h) (sa_cons (se_call (ok_law_heard T B nV) (hr.mono (by decide)) T.g_law_heard T.F_law_heard.kp (b_law_heard T.F_law_heard) pass0 (fun _ _ _ h => len_law_heard h) (sa_cons (sv 6) sa_nil)) (sa_cons (se_tup (sa_cons (se_ix ix_D (sv 1) se_int) (sa_cons (sv 8) (sa_cons (se_slice (se_ix ix_D (sv 1) se_int) so_none (so_some (se_callB (cr_max2 rfl) T.n_max bt_max (sa_cons se_int (sa_cons (se_op op_subD (se_op op_subD (sv 3) se_int) (se_callB cr_len T.n_len bt_len (sa_cons (se_ix ix_D (sv 1) se_int) sa_nil))) sa_nil))))) sa_nil)))) sa_nil))))) (sss_one (ss_ret se_bl)) sss_nil) (sss_cons (ss_if (st_cmp (op_eqQ hr.units) (se_ix ix_D (se_ix ix_D (sv 2) (se_op op_subD (sv 3) se_int)) se_int) se_str) (sss_one (ss_ret se_bl)) sss_nil) (sss_cons (ss_asg (se_call (ok_law_wide_text T) (hr.mono (by decide)) T.g_law_wide_text T.F_law_wide_text.kp (b_law_wide_text T.F_law_wide_text) pass0 (fun _ _ _ h => len_law_wide_text h) (sa_cons (sv 0) (sa_cons (se_op op_addD (se_slice (sv 2) so_none (so_some (sv 3))) (se_slice (sv 2) (so_some (se_op op_subD (sv 3) se_int)) so_none)) sa_nil))) (sg_tup rfl (sgs_cons (sg_name 6 sc_law_right.nd rfl (by first | exact Or.inl rfl | exact Or.inr rfl)) (sgs_cons (sg_name 7 sc_law_right.nd rfl (by first | exact Or.inl rfl | exact Or.inr rfl)) sgs_nil)))) (sss_one (ss_ret (se_call (ok_law_same T 8) (hr.mono (by decide)) T.g_law_same T.F_law_same.kp (b_law_same T.F_law_same) pass0 (fun _ _ _ h => len_law_same h) (sa_cons (se_call (ok_law_heard T B nV) (hr.mono (by decide)) T.g_law_heard T.F_law_heard.kp (b_law_heard T.F_law_heard) pass0 (fun _ _ _ h => len_law_heard h) (sa_cons (sv 6) sa_nil)) (sa_cons (se_lst (sa_cons (se_ix ix_D (sv 7) (sv 3)) (sa_cons se_bl sa_nil))) sa_nil)))))))))))))))))))
end
end Md
-- Me10
set_option Elab.async false
set_option linter.all false
set_option maxRecDepth 100000
set_option maxHeartbeats 4000000
namespace Md
open PySem PySem.Spec PyProof.Rows L2
set_option autoImplicit false
section
variable {P : Program} {w : World} {K : PySem.W.Frag} {mg : Str → Option Value} {base : Heap}
/-! law_box: slots script k bit_so; level 1 -/
abbrev N_law_box : List Str := ["_law_script", "_law_k", "_law_bit_so"]
theorem sc_law_box : FnScope N_law_box ["_law_script", "_law_k"] (defScope s_law_box) := ⟨rfl, rfl, rfl, by decide +kernel, rfl, by decide +kernel, by decide +kernel⟩
abbrev c_law_box : mS := (mSeq (mAsg (mIf (mT (m2 dLt (mVar 1) (mF dLen (mCons (mVar 0) mNil)))) (m2 dIx (mVar 0) (mVar 1)) (mC (.int 0))) (aName 2)) (mRet (mF dLst (mCons (m2 dMul (mF dAbs (mCons (mVar 2) mNil)) (mF dInt (mCons (m2 dGe (mF dAbs (mCons (mVar 2) mNil)) (m2 dPow (mC (.int 10)) (mC (.int 18)))) mNil))) (mCons (m2 dAdd (m2 dAdd (m2 dMod (mF dInt (mCons (mVar 2) mNil)) (mC (.int 2305843009213693951))) (m2 dMul (mC (.int 39373)) (mVar 1))) (mC (.int 3191043))) (mCons (mC (.int 0)) mNil))))))
def m_law_box : Mf := mFn 3 2 c_law_box
theorem len_law_box {ds : List Dt} {s : Tn} {r : Dt × Tn} (h : m_law_box ds s = some r) : ds.length = 2 := mFn_len h
theorem ok_law_box (T : Tx K mg) : FnOk P w K mg base CX0 1 T.a_law_box T.d_law_box ["_law_script", "_law_k"] (spM 2 m_law_box) := fn_sim T.F_law_box sc_law_box fun cdv A outer s H E hr => by
  exact (sss_cons (ss_set 2 sc_law_box.nd (se_ifExp (st_cmp (op_ltD hr.units) (sv 1) (se_callB cr_len T.n_len bt_len (sa_cons (sv 0) sa_nil))) (se_ix ix_D (sv 0) (sv 1)) se_int)) (sss_one (ss_ret (se_lst (sa_cons (se_op op_mulD (se_callB cr_absD T.n_abs bt_abs (sa_cons (sv 2) sa_nil)) (se_callT cr_intD T.n_int bt_int (sa_cons (se_cmp op_geD (se_callB cr_absD T.n_abs bt_abs (sa_cons (sv 2) sa_nil)) (se_op op_powD se_int se_int)) sa_nil))) (sa_cons (se_op op_addD (se_op op_addD (se_op op_modD (se_callT cr_intD T.n_int bt_int (sa_cons (sv 2) sa_nil)) se_int) (se_op op_mulD se_int (sv 1))) se_int) (sa_cons se_int sa_nil)))))))
end
end Md
-- Mc1
set_option Elab.async false
set_option linter.all false
set_option maxRecDepth 100000
set_option maxHeartbeats 4000000
/-! _law_cells by hand: the script is a list that is only read. -/
namespace Md
open PySem PySem.Spec PyProof.Rows L2
set_option autoImplicit false
section
variable {P : Program} {w : World} {K : PySem.W.Frag} {mg : Str → Option Value} {base : Heap}
/-- cells(script, 1): a list of one int -/
def spCells (K : PySem.W.Frag) : Sp := fun vs H Q _ => ∃ (a : Addr) (ns : List Int), vs = [.ref a, .int 1] ∧ ns.length ≤ 63 ∧ SqL K H a (ns.map V.int) ∧ ∀ H' l c, Same H H' → H' l = some (.lst [.int c]) → Q (.ref l) H'
abbrev tc1 (K : PySem.W.Frag) : TE := tOrT K (tCB (fun xs H Q => ∃ p ys, xs = [.ref p] ∧ (SqL K H p ys ∨ SqT K H p ys) ∧ ∀ l, H l = none → Q (.ref l) (upd H l (.lst ys))) (tCons (tSl (rSlL K) (tVar 0) tNoPart (tPart (tVar 1))) tNil)) (tLst (tCons (tC (.int 0)) tNil))
abbrev tc2 (K : PySem.W.Frag) : TI := iEnum K (tCons (tSl (rSlL K) (tVar 0) (tPart (tVar 1)) (tPart (tC (.int 63)))) tNil)
abbrev tc3 : TS := tAsg (tOp (rI (fun _ j => 0 < j) fun i j => .int (i % j)) (tCB (fun xs H Q => (∃ i, xs = [.int i] ∧ Q (.int i) H) ∨ ∃ k, xs = [.bl k] ∧ Q (.int (if k then 1 else 0)) H) (tCons (tVar 3) tNil)) (tVar 1)) (gName 5)
abbrev tc4 (K : PySem.W.Frag) : TS := tAsg (tOp (rI0 fun i j => .int (i + j)) (tOp (rIxL K) (tVar 2) (tVar 5)) (tOp (rI CMul fun i j => .int (i * j)) (tVar 4) (tOp (rI0 fun i j => .int (i + j)) (tVar 3) (tC (.int 2))))) (gSub (tVar 2) (tVar 5) rSetL)
abbrev t_cells (K : PySem.W.Frag) : TS := tSeq (tAsg (tc1 K) (gName 2)) (tSeq (tFor (tc2 K) (gTup K 2 (gCons (gName 3) (gCons (gName 4) gNil))) (tSeq tc3 (tc4 K))) (tRet (tVar 2)))
theorem same_new {H : Hp} {p : Addr} (o : HO) (h : H p = none) : Same H (upd H p o) := fun b u e => by
  rw [upd_ne (ne_of_none e h)]
  exact e
theorem cells_rest {a l : Addr} {ns : List Int} {H0 H : Hp} {c : Int} {Q : VK} (hl : ns.length ≤ 63) (hS : SqL K H0 a (ns.map V.int)) (hn : H0 l = none) (h1 : Same H0 H) (hlc : H l = some (.lst [.int c])) (k : ∀ H' l c, Same H0 H' → H' l = some (.lst [.int c]) → Q (.ref l) H') :
    tSeq (tFor (tc2 K) (gTup K 2 (gCons (gName 3) (gCons (gName 4) gNil))) (tSeq tc3 (tc4 K))) (tRet (tVar 2)) { nx := fun _ H' => Q .non H', rt := Q } [some (.ref a), some (.int 1), some (.ref l), none, none, none] H := by
  refine ⟨_, rfl, _, rfl, 1, rfl, 63, rfl, a, _, rfl, h1.seq hS, fun q hq => ?_⟩
  generalize hys : cutV (ns.map V.int) (some 1) (some 63) = ys
  have lq : l ≠ q := fun z => by
    rw [z, hq] at hlc
    cases hlc
  have hy : ∀ (i : Nat) y, ys[i]? = some y → ∃ n : Int, y = .int n := fun i y e => by
    have m := List.mem_of_getElem? e
    rw [← hys] at m
    obtain ⟨n, _, rfl⟩ := List.mem_map.mp (List.mem_of_mem_drop (List.mem_of_mem_take m))
    exact ⟨n, rfl⟩
  have hyl : ys.length ≤ 63 := by
    rw [← hys]
    unfold cutV
    rw [List.length_take, List.length_drop, List.length_map]
    omega
  refine ⟨q, ys, rfl, SqL.of upd_same, ?_⟩
  refine for_it (walk_enum (K := K) (a := q) (xs := ys)) (fun i σ H' => ∃ c v3 v4 v5, σ = [some (.ref a), some (.int 1), some (.ref l), v3, v4, v5] ∧ H' l = some (.lst [.int c]) ∧ H' q = some (.lst ys) ∧ ∀ b o, H0 b = some o → H' b = some o)
    ⟨c, none, none, none, rfl, by rw [upd_ne lq]; exact hlc, upd_same, fun b o e => by rw [upd_ne (ne_of_none (h1 b o e) hq)]; exact h1 b o e⟩
    (fun i σ H' _ ⟨_, _, _, _, _, _, h, _⟩ => SqL.of h) ?_ ?_
  · rintro i x σ H1 H2 hi ⟨c, v3, v4, v5, rfl, e1, e2, e3⟩ ⟨t, x1, y1, rfl, ht, rfl, hx, hy1⟩
    cases hx
    obtain ⟨n, rfl⟩ := hy i y1 hy1
    have e0 : ((i : Int) % 1) = 0 := Int.emod_one _
    have lt : l ≠ t := fun z => by
      rw [z, ht] at e1
      cases e1
    have qt : q ≠ t := fun z => by
      rw [z, ht] at e2
      cases e2
    have f1 : upd H1 t (.tup [.int (i : Int), .int n]) l = some (.lst [.int c]) := by
      rw [upd_ne lt]
      exact e1
    refine ⟨t, _, rfl, SqT.of upd_same, rfl, _, _, rfl, _, _, rfl, rfl, ?_⟩
    refine ⟨_, rfl, .inl ⟨(i : Int), rfl, _, rfl, (i : Int), 1, rfl, rfl, Int.one_pos, ?_⟩⟩
    refine ⟨_, rfl, _, rfl, l, [.int c], (i : Int) % 1, .int c, rfl, rfl, SqL.of f1, by rw [e0]; rfl, ?_⟩
    refine ⟨_, rfl, _, rfl, (i : Int), 2, rfl, rfl, n, (i : Int) + 2, rfl, rfl, .inr ⟨by omega, by omega⟩, c, n * ((i : Int) + 2), rfl, rfl, ?_⟩
    refine ⟨_, rfl, _, rfl, l, [.int c], (i : Int) % 1, 0, rfl, rfl, f1, by rw [e0]; rfl, ?_⟩
    refine ⟨c + n * ((i : Int) + 2), _, _, _, rfl, upd_same, by rw [upd_ne lq.symm, upd_ne qt]; exact e2, fun b o e => ?_⟩
    have bl : b ≠ l := fun z => by
      rw [z, hn] at e
      cases e
    rw [upd_ne bl, upd_ne (ne_of_none (e3 b o e) ht)]
    exact e3 b o e
  · rintro σ H1 ⟨c, v3, v4, v5, rfl, e1, e2, e3⟩
    exact ⟨_, rfl, k H1 l c e3 e1⟩
theorem cells_run {vs : List V} {H : Hp} {Q : VK} {E : XK} (h : spCells K vs H Q E) : t_cells K { nx := fun _ H' => Q .non H', rt := Q } (L2.start N_law_cells vs) H := by
  obtain ⟨a, ns, rfl, hl, hS, k⟩ := h
  refine ⟨_, rfl, _, rfl, 1, rfl, a, _, rfl, hS, fun p hp => ?_⟩
  refine ⟨p, _, rfl, .inl (SqL.of upd_same), fun l hlf => ?_⟩
  have s1 := same_new (.lst (cutV (ns.map V.int) none (some 1))) hp
  have s2 := s1.trans (same_new (.lst (cutV (ns.map V.int) none (some 1))) hlf)
  have hln : H l = none := by
    cases e : H l with
    | none => rfl
    | some u =>
      have := s1 l u e
      rw [hlf] at this
      cases this
  cases ns with
  | nil =>
    refine ⟨false, .inl ⟨_, SqL.of upd_same, rfl⟩, iteF ?_⟩
    refine ⟨by rw [sizeLine_is]; decide, fun q hq => ?_⟩
    have s3 := s2.trans (same_new (.lst [.int 0]) hq)
    have hqn : H q = none := by
      cases e : H q with
      | none => rfl
      | some u =>
        have := s2 q u e
        rw [hq] at this
        cases this
    exact cells_rest (c := 0) hl hS hqn s3 upd_same k
  | cons n ns =>
    refine ⟨true, .inl ⟨_, SqL.of upd_same, rfl⟩, iteT ?_⟩
    exact cells_rest (c := n) hl hS hln s2 (by rw [upd_same]; rfl) k
theorem ok_cells (T : Tx K mg) : FnOk P w K mg base CX0 1 T.a_law_cells T.d_law_cells ["_law_script", "_law_most_so"] (spCells K) := by
  refine T.F_law_cells.ok sc_law_cells (fun vs H Q E h => ?_) (fun cdv A outer s H vs Q E hr h => ⟨t_cells K, ?_, cells_run h⟩)
  · obtain ⟨a, ns, rfl, _⟩ := h
    rfl
  · exact pss_cons (ps_set (i := 2) sc_law_cells.nd rfl (Or.inl rfl) (pe_orT (pe_callTy call_list_of rfl T.n_list bt_list (pa_cons (pe_slice sl_list (pv 0) po_none (po_some (pv 1))) pa_nil) (by decide) (by decide) rfl rfl) (pe_one (pe_lst (pa_cons pe_int pa_nil)))))
      (pss_cons (ps_for PassesOwn.never rfl (pi_enum rfl T.n_enumerate (pa_cons (pe_slice sl_list (pv 0) (po_some (pv 1)) (po_some pe_int)) pa_nil)) (pg_tup rfl (pgs_cons (pg_name (i := 3) sc_law_cells.nd rfl (Or.inl rfl)) (pgs_cons (pg_name (i := 4) sc_law_cells.nd rfl (Or.inl rfl)) pgs_nil)))
        (pss_cons (ps_set (i := 5) sc_law_cells.nd rfl (Or.inl rfl) (pe_op op_mod (pe_callTy call_int1 rfl T.n_int bt_int (pa_cons (pv 3) pa_nil) (by decide) (by decide) rfl rfl) (pv 1)))
          (pss_one (ps_asg (pe_op op_add (pe_ix ix_list (pv 2) (pv 5) (fun _ _ => rfl)) (pe_op op_mul (pv 4) (pe_op op_add (pv 3) pe_int))) (pg_sub (pv 2) (pv 5) set_list) rfl rfl rfl))))
        (pss_one (ps_ret (pv 2))))
end
end Md
-- My1
set_option Elab.async false
set_option linter.all false
set_option maxRecDepth 100000
set_option maxHeartbeats 4000000
/-! What does not look at the source of draws, nor change it. -/
namespace Md
open PySem PySem.Spec PyProof.Rows L2
set_option autoImplicit false
def wt {α : Type} (o : Option α) (s : Tn) : Option (α × Tn) := match o with
  | some a => some (a, s)
  | none => none
def wx {α : Type} (o : Option (α × Ow)) (s : Tn) : Option (α × Tn × Ow) := match o with
  | some (a, O) => some (a, s, O)
  | none => none
def Pu {α : Type} (m : Ev → Tn → Option (α × Tn)) : Prop := ∀ env, ∃ o : Option α, ∀ s, m env s = wt o s
def PuF {α : Type} (f : List Dt → Tn → Option (α × Tn)) : Prop := ∀ ds, ∃ o : Option α, ∀ s, f ds s = wt o s
def PuX {α : Type} (m : Ev → Tn → Ow → Option (α × Tn × Ow)) : Prop := ∀ env O, ∃ o : Option (α × Ow), ∀ s, m env s O = wx o s
def PuXB (m : mXB) : Prop := ∀ env O, ∃ o : Option Bool, ∀ s, m env s O = wt o s
theorem PuF.at {α : Type} {f : List Dt → Tn → Option (α × Tn)} (h : PuF f) {ds : List Dt} {a : α} {s0 s1 : Tn} (e : f ds s0 = some (a, s1)) (s : Tn) : f ds s = some (a, s) := by
  obtain ⟨o, h⟩ := h ds
  rw [h] at e
  cases o with
  | none => cases e
  | some b =>
    cases e
    rw [h]
    rfl
section
variable {α : Type} {a b c : mE} {r : mA} {p q : mB} {t u : mS} {lo hi : mO} {g : Dt → Ev → Option Ev}
theorem pu_var (i : Nat) : Pu (mVar i) := fun env => by
  unfold mVar
  cases h : env[i]? with
  | none => exact ⟨none, fun s => rfl⟩
  | some d => cases d with
    | none => exact ⟨none, fun s => rfl⟩
    | some d => exact ⟨some d, fun s => rfl⟩
theorem pu_c (d : Dt) : Pu (mC d) := fun env => ⟨some d, fun s => rfl⟩
theorem pu_m2 {f : Dt → Dt → Option Dt} (ha : Pu a) (hb : Pu b) : Pu (m2 f a b) := fun env => by
  obtain ⟨o, ha⟩ := ha env
  obtain ⟨o2, hb⟩ := hb env
  cases o with
  | none => exact ⟨none, fun s => by simp only [m2, ha, wt]⟩
  | some d => cases o2 with
    | none => exact ⟨none, fun s => by simp only [m2, ha, hb, wt]⟩
    | some e => exact ⟨f d e, fun s => by cases h : f d e <;> simp only [m2, ha, hb, wt, h]⟩
theorem pu_m1 {f : Dt → Option Dt} (ha : Pu a) : Pu (m1 f a) := fun env => by
  obtain ⟨o, ha⟩ := ha env
  cases o with
  | none => exact ⟨none, fun s => by simp only [m1, ha, wt]⟩
  | some d => exact ⟨f d, fun s => by cases h : f d <;> simp only [m1, ha, wt, h]⟩
theorem pu_T (ha : Pu a) : Pu (mT a) := fun env => by
  obtain ⟨o, ha⟩ := ha env
  rcases o with _ | d
  · exact ⟨none, fun s => by simp only [mT, ha, wt]⟩
  · cases d with
    | bool b => exact ⟨some b, fun s => by simp only [mT, ha, wt]⟩
    | _ => exact ⟨none, fun s => by simp only [mT, ha, wt]⟩
theorem pu_band (ha : Pu p) (hb : Pu q) : Pu (mBand p q) := fun env => by
  obtain ⟨o, ha⟩ := ha env
  obtain ⟨o2, hb⟩ := hb env
  rcases o with _ | _ | _
  · exact ⟨none, fun s => by simp only [mBand, ha, wt]⟩
  · exact ⟨some false, fun s => by simp only [mBand, ha, wt]⟩
  · exact ⟨o2, fun s => by simp only [mBand, ha, hb, wt]⟩
theorem pu_bor (ha : Pu p) (hb : Pu q) : Pu (mBor p q) := fun env => by
  obtain ⟨o, ha⟩ := ha env
  obtain ⟨o2, hb⟩ := hb env
  rcases o with _ | _ | _
  · exact ⟨none, fun s => by simp only [mBor, ha, wt]⟩
  · exact ⟨o2, fun s => by simp only [mBor, ha, hb, wt]⟩
  · exact ⟨some true, fun s => by simp only [mBor, ha, wt]⟩
theorem pu_bnot (ha : Pu p) : Pu (mBnot p) := fun env => by
  obtain ⟨o, ha⟩ := ha env
  rcases o with _ | x
  · exact ⟨none, fun s => by simp only [mBnot, ha, wt]⟩
  · exact ⟨some (!x), fun s => by simp only [mBnot, ha, wt]⟩
theorem pu_vand (ha : Pu a) (hb : Pu b) : Pu (mVand a b) := fun env => by
  obtain ⟨o, ha⟩ := ha env
  obtain ⟨o2, hb⟩ := hb env
  rcases o with _ | d
  · exact ⟨none, fun s => by simp only [mVand, ha, wt]⟩
  · cases d with
    | bool x => cases x with
      | false => exact ⟨some (.bool false), fun s => by simp only [mVand, ha, wt]⟩
      | true => exact ⟨o2, fun s => by simp only [mVand, ha, hb, wt]⟩
    | _ => exact ⟨none, fun s => by simp only [mVand, ha, wt]⟩
theorem pu_vor (ha : Pu a) (hb : Pu b) : Pu (mVor a b) := fun env => by
  obtain ⟨o, ha⟩ := ha env
  obtain ⟨o2, hb⟩ := hb env
  rcases o with _ | d
  · exact ⟨none, fun s => by simp only [mVor, ha, wt]⟩
  · cases d with
    | bool x => cases x with
      | false => exact ⟨o2, fun s => by simp only [mVor, ha, hb, wt]⟩
      | true => exact ⟨some (.bool true), fun s => by simp only [mVor, ha, wt]⟩
    | _ => exact ⟨none, fun s => by simp only [mVor, ha, wt]⟩
theorem pu_if (hc : Pu p) (ha : Pu a) (hb : Pu b) : Pu (mIf p a b) := fun env => by
  obtain ⟨o, hc⟩ := hc env
  obtain ⟨o1, ha⟩ := ha env
  obtain ⟨o2, hb⟩ := hb env
  rcases o with _ | _ | _
  · exact ⟨none, fun s => by simp only [mIf, hc, wt]⟩
  · exact ⟨o2, fun s => by simp only [mIf, hc, hb, wt]⟩
  · exact ⟨o1, fun s => by simp only [mIf, hc, ha, wt]⟩
theorem pu_nil : Pu mNil := fun env => ⟨some [], fun s => rfl⟩
theorem pu_cons (ha : Pu a) (hr : Pu r) : Pu (mCons a r) := fun env => by
  obtain ⟨o, ha⟩ := ha env
  obtain ⟨o2, hr⟩ := hr env
  rcases o with _ | d
  · exact ⟨none, fun s => by simp only [mCons, ha, wt]⟩
  · rcases o2 with _ | ds
    · exact ⟨none, fun s => by simp only [mCons, ha, hr, wt]⟩
    · exact ⟨some (d :: ds), fun s => by simp only [mCons, ha, hr, wt]⟩
theorem pu_F {f : List Dt → Option Dt} (hr : Pu r) : Pu (mF f r) := fun env => by
  obtain ⟨o, hr⟩ := hr env
  rcases o with _ | ds
  · exact ⟨none, fun s => by simp only [mF, hr, wt]⟩
  · exact ⟨f ds, fun s => by cases h : f ds <;> simp only [mF, hr, wt, h]⟩
theorem pu_call {f : Mf} (hf : PuF f) (hr : Pu r) : Pu (mCall f r) := fun env => by
  obtain ⟨o, hr⟩ := hr env
  rcases o with _ | ds
  · exact ⟨none, fun s => by simp only [mCall, hr, wt]⟩
  · obtain ⟨o2, hf⟩ := hf ds
    exact ⟨o2, fun s => by simp only [mCall, hr, hf, wt]⟩
theorem pu_chain {f f2 : Dt → Dt → Option Dt} (ha : Pu a) (hb : Pu b) (hc : Pu c) : Pu (mChain f f2 a b c) := fun env => by
  obtain ⟨o, ha⟩ := ha env
  obtain ⟨o1, hb⟩ := hb env
  obtain ⟨o2, hc⟩ := hc env
  rcases o with _ | d
  · exact ⟨none, fun s => by simp only [mChain, ha, wt]⟩
  · rcases o1 with _ | e
    · exact ⟨none, fun s => by simp only [mChain, ha, hb, wt]⟩
    · rcases h : f d e with _ | x
      · exact ⟨none, fun s => by simp only [mChain, ha, hb, wt, h]⟩
      · cases x with
        | bool x => cases x with
          | false => exact ⟨some (.bool false), fun s => by simp only [mChain, ha, hb, wt, h]⟩
          | true => rcases o2 with _ | z
                    · exact ⟨none, fun s => by simp only [mChain, ha, hb, hc, wt, h]⟩
                    · exact ⟨f2 e z, fun s => by cases h2 : f2 e z <;> simp only [mChain, ha, hb, hc, wt, h, h2]⟩
        | _ => exact ⟨none, fun s => by simp only [mChain, ha, hb, wt, h]⟩
theorem pu_oNone : Pu oNone := fun env => ⟨some none, fun s => rfl⟩
theorem pu_oSome (ha : Pu a) : Pu (oSome a) := fun env => by
  obtain ⟨o, ha⟩ := ha env
  rcases o with _ | d
  · exact ⟨none, fun s => by simp only [oSome, ha, wt]⟩
  · cases d with
    | int i => exact ⟨some (some i), fun s => by simp only [oSome, ha, wt]⟩
    | _ => exact ⟨none, fun s => by simp only [oSome, ha, wt]⟩
theorem pu_sl (ha : Pu a) (hl : Pu lo) (hh : Pu hi) : Pu (mSl a lo hi) := fun env => by
  obtain ⟨o, ha⟩ := ha env
  obtain ⟨o1, hl⟩ := hl env
  obtain ⟨o2, hh⟩ := hh env
  rcases o with _ | d
  · exact ⟨none, fun s => by simp only [mSl, ha, wt]⟩
  · rcases o1 with _ | l
    · exact ⟨none, fun s => by simp only [mSl, ha, hl, wt]⟩
    · rcases o2 with _ | h
      · exact ⟨none, fun s => by simp only [mSl, ha, hl, hh, wt]⟩
      · exact ⟨dSl d l h, fun s => by cases h2 : dSl d l h <;> simp only [mSl, ha, hl, hh, wt, h2]⟩
theorem pu_iL (ha : Pu a) : Pu (iL a) := fun env => by
  obtain ⟨o, ha⟩ := ha env
  rcases o with _ | d
  · exact ⟨none, fun s => by simp only [iL, ha, wt]⟩
  · cases d with
    | list l => exact ⟨some l, fun s => by simp only [iL, ha, wt]⟩
    | _ => exact ⟨none, fun s => by simp only [iL, ha, wt]⟩
theorem pu_iT (ha : Pu a) : Pu (iT a) := fun env => by
  obtain ⟨o, ha⟩ := ha env
  rcases o with _ | d
  · exact ⟨none, fun s => by simp only [iT, ha, wt]⟩
  · cases d with
    | tuple l => exact ⟨some l, fun s => by simp only [iT, ha, wt]⟩
    | _ => exact ⟨none, fun s => by simp only [iT, ha, wt]⟩
theorem pu_iS (ha : Pu a) : Pu (iS a) := fun env => by
  obtain ⟨o, ha⟩ := ha env
  rcases o with _ | d
  · exact ⟨none, fun s => by simp only [iS, ha, wt]⟩
  · cases d with
    | str l => exact ⟨some (l.cps.toList.map fun c => .str ⟨#[c]⟩), fun s => by simp only [iS, ha, wt]⟩
    | _ => exact ⟨none, fun s => by simp only [iS, ha, wt]⟩
/-- what is made of a list of data alone -/
theorem pu_of {m : mA} (F : List Dt → Option (List Dt)) (hr : Pu r) (h : ∀ env s, m env s = match r env s with
    | some (ds, s1) => wt (F ds) s1
    | none => none) : Pu m := fun env => by
  obtain ⟨o, hr⟩ := hr env
  rcases o with _ | ds
  · exact ⟨none, fun s => by rw [h, hr] <;> rfl⟩
  · exact ⟨F ds, fun s => by rw [h, hr] <;> rfl⟩
theorem pu_rng1 (hr : Pu r) : Pu (iRng1 r) := pu_of (fun ds => match ds with
    | [.int j] => if smallI j then some (rngL 0 j.toNat) else none
    | _ => none) hr fun env s => by
  unfold iRng1
  split
  · rename_i h
    rw [h]
    dsimp only
    split <;> rfl
  · rename_i hn
    split
    · rename_i ds s1 h
      split
      · exact absurd h (hn _ _)
      · rfl
    · rfl
theorem pu_rng2 (hr : Pu r) : Pu (iRng2 r) := pu_of (fun ds => match ds with
    | [.int i, .int j] => if smallI i ∧ smallI j then some (rngL i (j - i).toNat) else none
    | _ => none) hr fun env s => by
  unfold iRng2
  split
  · rename_i h
    rw [h]
    dsimp only
    split <;> rfl
  · rename_i hn
    split
    · rename_i ds s1 h
      split
      · exact absurd h (hn _ _ _)
      · rfl
    · rfl
theorem pu_rng3 (hr : Pu r) : Pu (iRng3 r) := pu_of (fun ds => match ds with
    | [.int i, .int j, .int c] => if i = 0 ∧ c = 2 ∧ 0 ≤ j ∧ j < 2 ^ 60 then some (twoL 0 ((j.toNat + 1) / 2)) else none
    | _ => none) hr fun env s => by
  unfold iRng3
  split
  · rename_i h
    rw [h]
    dsimp only
    split <;> rfl
  · rename_i hn
    split
    · rename_i ds s1 h
      split
      · exact absurd h (hn _ _ _ _)
      · rfl
    · rfl
theorem pu_en (hr : Pu r) : Pu (iEn r) := pu_of (fun ds => match ds with
    | [.list ds] => some (zipD (rngL 0 ds.length) ds)
    | _ => none) hr fun env s => by
  unfold iEn
  split
  · rename_i h
    rw [h]
    rfl
  · rename_i hn
    split
    · rename_i ds s1 h
      split
      · exact absurd h (hn _ _)
      · rfl
    · rfl
theorem pu_zp (hr : Pu r) : Pu (iZp r) := pu_of (fun ds => match ds with
    | [.list ds, .list es] => some (zipD ds es)
    | [.tuple ds, .tuple es] => some (zipD ds es)
    | _ => none) hr fun env s => by
  unfold iZp
  split
  · rename_i h
    rw [h]
    rfl
  · rename_i h
    rw [h]
    rfl
  · rename_i hn hn2
    split
    · rename_i ds s1 h
      split
      · exact absurd h (hn _ _ _)
      · exact absurd h (hn2 _ _ _)
      · rfl
    · rfl
theorem pu_lcL {vs : List Nat} (ha : Pu a) : ∀ ds : List Dt, Pu (mLcL g vs a ds)
  | [] => fun env => ⟨some [], fun s => rfl⟩
  | d :: ds => fun env => by
    rcases hg : g d (wipeE env vs) with _ | e
    · exact ⟨none, fun s => by simp only [mLcL, hg, wt]⟩
    · obtain ⟨o, ha1⟩ := ha e
      rcases o with _ | z
      · exact ⟨none, fun s => by simp only [mLcL, hg, ha1, wt]⟩
      · obtain ⟨o2, hl⟩ := pu_lcL (vs := vs) ha ds env
        rcases o2 with _ | zs
        · exact ⟨none, fun s => by simp only [mLcL, hg, ha1, hl, wt]⟩
        · exact ⟨some (z :: zs), fun s => by simp only [mLcL, hg, ha1, hl, wt]⟩
theorem pu_lc {vs : List Nat} (hr : Pu r) (ha : Pu a) : Pu (mLc r g vs a) := fun env => by
  obtain ⟨o, hr⟩ := hr env
  rcases o with _ | ds
  · exact ⟨none, fun s => by simp only [mLc, hr, wt]⟩
  · obtain ⟨o2, hl⟩ := pu_lcL (g := g) (vs := vs) ha ds env
    rcases o2 with _ | zs
    · exact ⟨none, fun s => by simp only [mLc, hr, hl, wt]⟩
    · refine ⟨if zs.any isTin = true ∨ ¬ zs.length ≤ 16777216 then none else some (.list zs), fun s => ?_⟩
      simp only [mLc, hr, hl, wt]
      split <;> rfl
theorem pu_next : Pu mNext := fun env => ⟨some (.nx env), fun s => rfl⟩
theorem pu_seq (ht : Pu t) (hu : Pu u) : Pu (mSeq t u) := fun env => by
  obtain ⟨o, ht⟩ := ht env
  rcases o with _ | f
  · exact ⟨none, fun s => by simp only [mSeq, ht, wt]⟩
  · cases f with
    | nx e =>
      obtain ⟨o2, hu⟩ := hu e
      exact ⟨o2, fun s => by simp only [mSeq, ht, hu, wt]⟩
    | rt d => exact ⟨some (.rt d), fun s => by simp only [mSeq, ht, wt]⟩
    | bk d => exact ⟨some (.bk d), fun s => by simp only [mSeq, ht, wt]⟩
    | ct d => exact ⟨some (.ct d), fun s => by simp only [mSeq, ht, wt]⟩
theorem pu_asg (ha : Pu a) : Pu (mAsg a g) := fun env => by
  obtain ⟨o, ha⟩ := ha env
  rcases o with _ | d
  · exact ⟨none, fun s => by simp only [mAsg, ha, wt]⟩
  · rcases hg : g d env with _ | e
    · exact ⟨none, fun s => by simp only [mAsg, ha, wt, hg]⟩
    · exact ⟨some (.nx e), fun s => by simp only [mAsg, ha, wt, hg]⟩
theorem pu_ifS (hc : Pu p) (ht : Pu t) (hu : Pu u) : Pu (mIfS p t u) := fun env => by
  obtain ⟨o, hc⟩ := hc env
  obtain ⟨o1, ht⟩ := ht env
  obtain ⟨o2, hu⟩ := hu env
  rcases o with _ | _ | _
  · exact ⟨none, fun s => by simp only [mIfS, hc, wt]⟩
  · exact ⟨o2, fun s => by simp only [mIfS, hc, hu, wt]⟩
  · exact ⟨o1, fun s => by simp only [mIfS, hc, ht, wt]⟩
theorem pu_ret (ha : Pu a) : Pu (mRet a) := fun env => by
  obtain ⟨o, ha⟩ := ha env
  rcases o with _ | d
  · exact ⟨none, fun s => by simp only [mRet, ha, wt]⟩
  · exact ⟨some (.rt d), fun s => by simp only [mRet, ha, wt]⟩
theorem pu_par {i j : Nat} (hr : Pu r) : Pu (mPar i j r) := fun env => by
  obtain ⟨o, hr⟩ := hr env
  rcases o with _ | ds
  · exact ⟨none, fun s => by simp only [mPar, hr, wt]⟩
  · match ds with
    | [] => exact ⟨none, fun s => by simp only [mPar, hr, wt]⟩
    | [d] => exact ⟨none, fun s => by simp only [mPar, hr, wt]⟩
    | [d, e] => exact ⟨some (.nx ((env.set i (some d)).set j (some e))), fun s => by simp only [mPar, hr, wt]⟩
    | d :: e :: f :: ds => exact ⟨none, fun s => by simp only [mPar, hr, wt]⟩
theorem pu_aug {i : Nat} (ha : Pu a) : Pu (mAug i a) := fun env => by
  obtain ⟨o, ha⟩ := ha env
  rcases he : env[i]? with _ | _ | x
  · exact ⟨none, fun s => by simp only [mAug, he, wt]⟩
  · exact ⟨none, fun s => by simp only [mAug, he, wt]⟩
  · cases x with
    | int x =>
      rcases o with _ | d
      · exact ⟨none, fun s => by simp only [mAug, he, ha, wt]⟩
      · cases d with
        | int y => exact ⟨some (.nx (env.set i (some (.int (x + y))))), fun s => by simp only [mAug, he, ha, wt]⟩
        | _ => exact ⟨none, fun s => by simp only [mAug, he, ha, wt]⟩
    | _ => exact ⟨none, fun s => by simp only [mAug, he, wt]⟩
theorem pu_forL (ht : Pu t) : ∀ ds : List Dt, Pu (mForL g t ds)
  | [] => fun env => ⟨some (.nx env), fun s => rfl⟩
  | d :: ds => fun env => by
    rcases hg : g d env with _ | e
    · exact ⟨none, fun s => by simp only [mForL, hg, wt]⟩
    · obtain ⟨o, h1⟩ := ht e
      rcases o with _ | f
      · exact ⟨none, fun s => by simp only [mForL, hg, h1, wt]⟩
      · cases f with
        | nx e2 =>
          obtain ⟨o2, h2⟩ := pu_forL ht ds e2
          exact ⟨o2, fun s => by simp only [mForL, hg, h1, h2, wt]⟩
        | ct e2 =>
          obtain ⟨o2, h2⟩ := pu_forL ht ds e2
          exact ⟨o2, fun s => by simp only [mForL, hg, h1, h2, wt]⟩
        | rt d => exact ⟨some (.rt d), fun s => by simp only [mForL, hg, h1, wt]⟩
        | bk d => exact ⟨some (.nx d), fun s => by simp only [mForL, hg, h1, wt]⟩
theorem pu_for (hr : Pu r) (ht : Pu t) : Pu (mFor r g t) := fun env => by
  obtain ⟨o, hr⟩ := hr env
  rcases o with _ | ds
  · exact ⟨none, fun s => by simp only [mFor, hr, wt]⟩
  · obtain ⟨o2, hl⟩ := pu_forL (g := g) ht ds env
    exact ⟨o2, fun s => by simp only [mFor, hr, hl, wt]⟩
theorem pu_while (hc : Pu p) (ht : Pu t) : ∀ n : Nat, Pu (mWhile p t n)
  | 0 => fun env => ⟨none, fun s => rfl⟩
  | n + 1 => fun env => by
    obtain ⟨o, hc1⟩ := hc env
    rcases o with _ | _ | _
    · exact ⟨none, fun s => by simp only [mWhile, hc1, wt]⟩
    · exact ⟨some (.nx env), fun s => by simp only [mWhile, hc1, wt]⟩
    · obtain ⟨o, h1⟩ := ht env
      rcases o with _ | f
      · exact ⟨none, fun s => by simp only [mWhile, hc1, h1, wt]⟩
      · cases f with
        | nx e2 =>
          obtain ⟨o2, h2⟩ := pu_while hc ht n e2
          exact ⟨o2, fun s => by simp only [mWhile, hc1, h1, h2, wt]⟩
        | ct e2 =>
          obtain ⟨o2, h2⟩ := pu_while hc ht n e2
          exact ⟨o2, fun s => by simp only [mWhile, hc1, h1, h2, wt]⟩
        | rt d => exact ⟨some (.rt d), fun s => by simp only [mWhile, hc1, h1, wt]⟩
        | bk d => exact ⟨some (.nx d), fun s => by simp only [mWhile, hc1, h1, wt]⟩
theorem pu_fn {n k : Nat} (ht : Pu t) : PuF (mFn n k t) := fun ds => by
  by_cases h : ds.length = k
  · obtain ⟨o, ht⟩ := ht (initE n ds)
    rcases o with _ | f
    · exact ⟨none, fun s => by simp only [mFn, h, ht, wt, if_true]⟩
    · cases f with
      | nx e => exact ⟨some .none, fun s => by simp only [mFn, h, ht, wt, if_true]⟩
      | rt d => exact ⟨some d, fun s => by simp only [mFn, h, ht, wt, if_true]⟩
      | bk d => exact ⟨none, fun s => by simp only [mFn, h, ht, wt, if_true]⟩
      | ct d => exact ⟨none, fun s => by simp only [mFn, h, ht, wt, if_true]⟩
  · exact ⟨none, fun s => by simp only [mFn, h, wt, if_false]⟩
end
end Md
-- My2
set_option Elab.async false
set_option linter.all false
set_option maxRecDepth 100000
set_option maxHeartbeats 4000000
/-! The same for defs with lists of their own; which defs are so. -/
namespace Md
open PySem PySem.Spec PyProof.Rows L2
set_option autoImplicit false
section
variable {α : Type} {a b : mE} {r : mA} {p : mB} {c : mXB} {t u : mX} {m : mS} {x y : mXE} {z : mXA} {g : Dt → Ev → Option Ev} {i j k : Nat}
theorem px_up (h : Pu m) : PuX (mUp m) := fun env O => by
  obtain ⟨o, h⟩ := h env
  rcases o with _ | f
  · exact ⟨none, fun s => by simp only [mUp, h, wt, wx]⟩
  · exact ⟨some (.fl f, O), fun s => by simp only [mUp, h, wt, wx]⟩
theorem px_next : PuX mNextX := fun env O => ⟨some (.fl (.nx env), O), fun s => rfl⟩
theorem px_seq (ht : PuX t) (hu : PuX u) : PuX (mSeqX t u) := fun env O => by
  obtain ⟨o, ht⟩ := ht env O
  rcases o with _ | ⟨f, O1⟩
  · exact ⟨none, fun s => by simp only [mSeqX, ht, wx]⟩
  · cases f with
    | ex i => exact ⟨some (.ex i, O1), fun s => by simp only [mSeqX, ht, wx]⟩
    | fl f => cases f with
      | nx e =>
        obtain ⟨o2, hu⟩ := hu e O1
        exact ⟨o2, fun s => by simp only [mSeqX, ht, hu, wx]⟩
      | rt d => exact ⟨some (.fl (.rt d), O1), fun s => by simp only [mSeqX, ht, wx]⟩
      | bk d => exact ⟨some (.fl (.bk d), O1), fun s => by simp only [mSeqX, ht, wx]⟩
      | ct d => exact ⟨some (.fl (.ct d), O1), fun s => by simp only [mSeqX, ht, wx]⟩
theorem px_fz (h : Pu p) : PuXB (fz p) := fun env O => by
  obtain ⟨o, h⟩ := h (thaw O env)
  exact ⟨o, fun s => by simp only [fz, h]⟩
theorem px_if (hc : PuXB c) (ht : PuX t) (hu : PuX u) : PuX (mIfX c t u) := fun env O => by
  obtain ⟨o, hc⟩ := hc env O
  obtain ⟨o1, ht⟩ := ht env O
  obtain ⟨o2, hu⟩ := hu env O
  rcases o with _ | _ | _
  · exact ⟨none, fun s => by simp only [mIfX, hc, wt, wx]⟩
  · exact ⟨o2, fun s => by simp only [mIfX, hc, hu, wt]⟩
  · exact ⟨o1, fun s => by simp only [mIfX, hc, ht, wt]⟩
theorem px_upE (h : Pu a) : PuX (mUpE a) := fun env O => by
  obtain ⟨o, h⟩ := h env
  rcases o with _ | d
  · exact ⟨none, fun s => by simp only [mUpE, h, wt, wx]⟩
  · exact ⟨some (d, O), fun s => by simp only [mUpE, h, wt, wx]⟩
theorem px_nil : PuX mNilX := fun env O => ⟨some ([], O), fun s => rfl⟩
theorem px_cons (hx : PuX x) (hz : PuX z) : PuX (mConsX x z) := fun env O => by
  obtain ⟨o, hx⟩ := hx env O
  rcases o with _ | ⟨d, O1⟩
  · exact ⟨none, fun s => by simp only [mConsX, hx, wx]⟩
  · obtain ⟨o2, hz⟩ := hz env O1
    rcases o2 with _ | ⟨ds, O2⟩
    · exact ⟨none, fun s => by simp only [mConsX, hx, hz, wx]⟩
    · exact ⟨some (d :: ds, O2), fun s => by simp only [mConsX, hx, hz, wx]⟩
theorem px_set (hx : PuX x) : PuX (mSetX i x) := fun env O => by
  obtain ⟨o, hx⟩ := hx env O
  rcases o with _ | ⟨d, O1⟩
  · exact ⟨none, fun s => by simp only [mSetX, hx, wx]⟩
  · exact ⟨some (.fl (.nx (env.set i (some d))), O1), fun s => by simp only [mSetX, hx, wx]⟩
theorem px_par (hz : PuX z) : PuX (mParX i j z) := fun env O => by
  obtain ⟨o, hz⟩ := hz env O
  rcases o with _ | ⟨ds, O1⟩
  · exact ⟨none, fun s => by simp only [mParX, hz, wx]⟩
  · match ds with
    | [] => exact ⟨none, fun s => by simp only [mParX, hz, wx]⟩
    | [d] => exact ⟨none, fun s => by simp only [mParX, hz, wx]⟩
    | [d, e] => exact ⟨some (.fl (.nx ((env.set i (some d)).set j (some e))), O1), fun s => by simp only [mParX, hz, wx]⟩
    | d :: e :: f :: ds => exact ⟨none, fun s => by simp only [mParX, hz, wx]⟩
theorem px_par3 (hz : PuX z) : PuX (mPar3X i j k z) := fun env O => by
  obtain ⟨o, hz⟩ := hz env O
  rcases o with _ | ⟨ds, O1⟩
  · exact ⟨none, fun s => by simp only [mPar3X, hz, wx]⟩
  · match ds with
    | [] => exact ⟨none, fun s => by simp only [mPar3X, hz, wx]⟩
    | [d] => exact ⟨none, fun s => by simp only [mPar3X, hz, wx]⟩
    | [d, e] => exact ⟨none, fun s => by simp only [mPar3X, hz, wx]⟩
    | [d, e, f] => exact ⟨some (.fl (.nx (((env.set i (some d)).set j (some e)).set k (some f))), O1), fun s => by simp only [mPar3X, hz, wx]⟩
    | d :: e :: f :: f2 :: ds => exact ⟨none, fun s => by simp only [mPar3X, hz, wx]⟩
theorem px_retT (h : Pu a) : PuX (mRetT a) := fun env O => by
  obtain ⟨o, h⟩ := h (thaw O env)
  rcases o with _ | d
  · exact ⟨none, fun s => by simp only [mRetT, h, wt, wx]⟩
  · by_cases e : unq d = none
    · exact ⟨some (.fl (.rt d), []), fun s => by simp only [mRetT, h, wt, wx, e, if_true]⟩
    · exact ⟨none, fun s => by simp only [mRetT, h, wt, wx, e, if_false]⟩
theorem px_app (h : Pu a) : PuX (mApp i a) := fun env O => by
  obtain ⟨o, h⟩ := h env
  rcases he : env[i]? with _ | _ | q
  · exact ⟨none, fun s => by simp only [mApp, he, wx]⟩
  · exact ⟨none, fun s => by simp only [mApp, he, wx]⟩
  · rcases hq : unq q with _ | n
    · exact ⟨none, fun s => by simp only [mApp, he, hq, wx]⟩
    · rcases o with _ | d
      · exact ⟨none, fun s => by simp only [mApp, he, hq, h, wt, wx]⟩
      · rcases hO : O[n]? with _ | ds
        · exact ⟨none, fun s => by simp only [mApp, he, hq, h, hO, wt, wx]⟩
        · by_cases e : ds.length < line ∧ isTin d = false
          · exact ⟨some (.fl (.nx env), O.set n (ds ++ [d])), fun s => by simp only [mApp, he, hq, h, hO, wt, wx]; rw [if_pos e]⟩
          · exact ⟨none, fun s => by simp only [mApp, he, hq, h, hO, wt, wx]; rw [if_neg e]⟩
theorem px_while (hc : PuXB c) (ht : PuX t) : ∀ n : Nat, PuX (mWhileX c t n)
  | 0 => fun env O => ⟨none, fun s => rfl⟩
  | n + 1 => fun env O => by
    obtain ⟨o, hc1⟩ := hc env O
    rcases o with _ | _ | _
    · exact ⟨none, fun s => by simp only [mWhileX, hc1, wt, wx]⟩
    · exact ⟨some (.fl (.nx env), O), fun s => by simp only [mWhileX, hc1, wt, wx]⟩
    · obtain ⟨o, h1⟩ := ht env O
      rcases o with _ | ⟨f, O1⟩
      · exact ⟨none, fun s => by simp only [mWhileX, hc1, h1, wt, wx]⟩
      · cases f with
        | ex i => exact ⟨some (.ex i, O1), fun s => by simp only [mWhileX, hc1, h1, wt, wx]⟩
        | fl f => cases f with
          | nx e =>
            obtain ⟨o2, h2⟩ := px_while hc ht n e O1
            exact ⟨o2, fun s => by simp only [mWhileX, hc1, h1, h2, wt, wx]⟩
          | ct e =>
            obtain ⟨o2, h2⟩ := px_while hc ht n e O1
            exact ⟨o2, fun s => by simp only [mWhileX, hc1, h1, h2, wt, wx]⟩
          | rt d => exact ⟨some (.fl (.rt d), O1), fun s => by simp only [mWhileX, hc1, h1, wt, wx]⟩
          | bk d => exact ⟨some (.fl (.nx d), O1), fun s => by simp only [mWhileX, hc1, h1, wt, wx]⟩
theorem px_forL (ht : PuX t) : ∀ ds : List Dt, PuX (mForLX g t ds)
  | [] => fun env O => ⟨some (.fl (.nx env), O), fun s => rfl⟩
  | d :: ds => fun env O => by
    rcases hg : g d env with _ | e
    · exact ⟨none, fun s => by simp only [mForLX, hg, wx]⟩
    · obtain ⟨o, h1⟩ := ht e O
      rcases o with _ | ⟨f, O1⟩
      · exact ⟨none, fun s => by simp only [mForLX, hg, h1, wx]⟩
      · cases f with
        | ex i => exact ⟨some (.ex i, O1), fun s => by simp only [mForLX, hg, h1, wx]⟩
        | fl f => cases f with
          | nx e2 =>
            obtain ⟨o2, h2⟩ := px_forL ht ds e2 O1
            exact ⟨o2, fun s => by simp only [mForLX, hg, h1, h2, wx]⟩
          | ct e2 =>
            obtain ⟨o2, h2⟩ := px_forL ht ds e2 O1
            exact ⟨o2, fun s => by simp only [mForLX, hg, h1, h2, wx]⟩
          | rt d => exact ⟨some (.fl (.rt d), O1), fun s => by simp only [mForLX, hg, h1, wx]⟩
          | bk d => exact ⟨some (.fl (.nx d), O1), fun s => by simp only [mForLX, hg, h1, wx]⟩
theorem px_for (hr : Pu r) (ht : PuX t) : PuX (mForX r g t) := fun env O => by
  obtain ⟨o, hr⟩ := hr env
  rcases o with _ | ds
  · exact ⟨none, fun s => by simp only [mForX, hr, wt, wx]⟩
  · obtain ⟨o2, hl⟩ := px_forL (g := g) ht ds env O
    exact ⟨o2, fun s => by simp only [mForX, hr, hl, wt]⟩
theorem px_thaw (h : Pu a) : PuX (mThaw a) := fun env O => by
  obtain ⟨o, h⟩ := h (thaw O env)
  rcases o with _ | d
  · exact ⟨none, fun s => by simp only [mThaw, h, wt, wx]⟩
  · by_cases e : flatT d = true
    · exact ⟨some (d, O), fun s => by simp only [mThaw, h, wt, wx, e, if_true]⟩
    · exact ⟨none, fun s => by simp only [mThaw, h, wt, wx]; rw [if_neg e]⟩
theorem px_setR {f : MfR} (hf : PuF f) (hr : Pu r) : PuX (mSetR i f r) := fun env O => by
  obtain ⟨o, hr⟩ := hr env
  rcases o with _ | ds
  · exact ⟨none, fun s => by simp only [mSetR, hr, wt, wx]⟩
  · obtain ⟨o2, hf⟩ := hf ds
    rcases o2 with _ | d | e
    · exact ⟨none, fun s => by simp only [mSetR, hr, hf, wt, wx]⟩
    · exact ⟨some (.fl (.nx (env.set i (some d))), O), fun s => by simp only [mSetR, hr, hf, wt, wx]⟩
    · exact ⟨some (.ex e, O), fun s => by simp only [mSetR, hr, hf, wt, wx]⟩
theorem px_extR {f : MfR} (hf : PuF f) (hr : Pu r) : PuX (mExtR i f r) := fun env O => by
  obtain ⟨o, hr⟩ := hr env
  rcases he : env[i]? with _ | _ | q
  · exact ⟨none, fun s => by simp only [mExtR, he, wx]⟩
  · exact ⟨none, fun s => by simp only [mExtR, he, wx]⟩
  · rcases hq : unq q with _ | n
    · exact ⟨none, fun s => by simp only [mExtR, he, hq, wx]⟩
    · rcases o with _ | ds
      · exact ⟨none, fun s => by simp only [mExtR, he, hq, hr, wt, wx]⟩
      · obtain ⟨o2, hf⟩ := hf ds
        rcases o2 with _ | d | k
        · exact ⟨none, fun s => by simp only [mExtR, he, hq, hr, hf, wt, wx]⟩
        · cases d with
          | list es =>
            rcases hO : O[n]? with _ | xs
            · exact ⟨none, fun s => by simp only [mExtR, he, hq, hr, hf, hO, wt, wx]⟩
            · by_cases e : xs.length + es.length ≤ line
              · exact ⟨some (.fl (.nx env), O.set n (xs ++ es)), fun s => by simp only [mExtR, he, hq, hr, hf, hO, wt, wx]; rw [if_pos e]⟩
              · exact ⟨none, fun s => by simp only [mExtR, he, hq, hr, hf, hO, wt, wx]; rw [if_neg e]⟩
          | _ => exact ⟨none, fun s => by simp only [mExtR, he, hq, hr, hf, wt, wx]⟩
        · exact ⟨some (.ex k, O), fun s => by simp only [mExtR, he, hq, hr, hf, wt, wx]⟩
theorem px_newL (hr : Pu r) : PuX (mNewL r) := fun env O => by
  obtain ⟨o, hr⟩ := hr env
  rcases o with _ | ds
  · exact ⟨none, fun s => by simp only [mNewL, hr, wt, wx]⟩
  · by_cases e : ds.any isTin = true ∨ ¬ ds.length ≤ line
    · exact ⟨none, fun s => by simp only [mNewL, hr, wt, wx]; rw [if_pos e]⟩
    · exact ⟨some (opq O.length, O ++ [ds]), fun s => by simp only [mNewL, hr, wt, wx]; rw [if_neg e]⟩
theorem px_raise (h : Pu a) : PuX (mRaise a) := fun env O => by
  obtain ⟨o, h⟩ := h env
  rcases o with _ | d
  · exact ⟨none, fun s => by simp only [mRaise, h, wt, wx]⟩
  · cases d with
    | int i => exact ⟨some (.ex i, O), fun s => by simp only [mRaise, h, wt, wx]⟩
    | _ => exact ⟨none, fun s => by simp only [mRaise, h, wt, wx]⟩
theorem px_fn {n k : Nat} (ht : PuX t) : PuF (mFnX n k t) := fun ds => by
  by_cases h : ds.length = k ∧ clean ds = true
  · obtain ⟨o, ht⟩ := ht (initE n ds) []
    rcases o with _ | ⟨f, O⟩
    · exact ⟨none, fun s => by simp only [mFnX, ht, wt, wx]; rw [if_pos h]⟩
    · cases f with
      | ex i => exact ⟨some (.inr i), fun s => by simp only [mFnX, ht, wt, wx]; rw [if_pos h]⟩
      | fl f => cases f with
        | nx e => exact ⟨some (.inl .none), fun s => by simp only [mFnX, ht, wt, wx]; rw [if_pos h]⟩
        | rt d =>
          by_cases e : (unq d).isNone = true
          · exact ⟨some (.inl d), fun s => by simp only [mFnX, ht, wt, wx]; rw [if_pos h, if_pos e]⟩
          · exact ⟨none, fun s => by simp only [mFnX, ht, wt, wx]; rw [if_pos h, if_neg e]⟩
        | bk d => exact ⟨none, fun s => by simp only [mFnX, ht, wt, wx]; rw [if_pos h]⟩
        | ct d => exact ⟨none, fun s => by simp only [mFnX, ht, wt, wx]; rw [if_pos h]⟩
  · exact ⟨none, fun s => by simp only [mFnX, wt]; rw [if_neg h]⟩
theorem px_fnL {n k : Nat} (ht : PuX t) : PuF (mFnL n k t) := fun ds => by
  obtain ⟨o, h⟩ := px_fn (n := n) (k := k) ht ds
  rcases o with _ | d | i
  · exact ⟨none, fun s => by simp only [mFnL, h, wt]⟩
  · exact ⟨some d, fun s => by simp only [mFnL, h, wt]⟩
  · exact ⟨none, fun s => by simp only [mFnL, h, wt]⟩
end
end Md
-- My3
set_option Elab.async false
set_option linter.all false
set_option maxRecDepth 100000
set_option maxHeartbeats 4000000
/-! The defs that leave the source of draws alone. -/
namespace Md
open PySem PySem.Spec PyProof.Rows L2
set_option autoImplicit false
theorem pf_is_number : PuF m_is_number := pu_fn (by repeat' (first | apply pu_ret | apply pu_seq | apply pu_asg | apply pu_ifS | apply pu_next | apply pu_par | apply pu_aug | apply pu_for | apply pu_while | apply pu_var | apply pu_c | apply pu_m2 | apply pu_m1 | apply pu_T | apply pu_band | apply pu_bor | apply pu_bnot | apply pu_vand | apply pu_vor | apply pu_if | apply pu_nil | apply pu_cons | apply pu_F | apply pu_chain | apply pu_oNone | apply pu_oSome | apply pu_sl | apply pu_iL | apply pu_iT | apply pu_iS | apply pu_rng1 | apply pu_rng2 | apply pu_rng3 | apply pu_en | apply pu_zp | apply pu_lc))
theorem pf_is_long : PuF m_is_long := pu_fn (by repeat' (first | apply pu_ret | apply pu_seq | apply pu_asg | apply pu_ifS | apply pu_next | apply pu_par | apply pu_aug | apply pu_for | apply pu_while | apply pu_var | apply pu_c | apply pu_m2 | apply pu_m1 | apply pu_T | apply pu_band | apply pu_bor | apply pu_bnot | apply pu_vand | apply pu_vor | apply pu_if | apply pu_nil | apply pu_cons | apply pu_F | apply pu_chain | apply pu_oNone | apply pu_oSome | apply pu_sl | apply pu_iL | apply pu_iT | apply pu_iS | apply pu_rng1 | apply pu_rng2 | apply pu_rng3 | apply pu_en | apply pu_zp | apply pu_lc))
theorem pf_is_dot : PuF m_is_dot := pu_fn (by repeat' (first | apply pu_ret | apply pu_seq | apply pu_asg | apply pu_ifS | apply pu_next | apply pu_par | apply pu_aug | apply pu_for | apply pu_while | apply pu_var | apply pu_c | apply pu_m2 | apply pu_m1 | apply pu_T | apply pu_band | apply pu_bor | apply pu_bnot | apply pu_vand | apply pu_vor | apply pu_if | apply pu_nil | apply pu_cons | apply pu_F | apply pu_chain | apply pu_oNone | apply pu_oSome | apply pu_sl | apply pu_iL | apply pu_iT | apply pu_iS | apply pu_rng1 | apply pu_rng2 | apply pu_rng3 | apply pu_en | apply pu_zp | apply pu_lc | apply (pu_call pf_is_long) | apply (pu_call pf_is_number)))
theorem pf_turn_in : PuF m_turn_in := pu_fn (by repeat' (first | apply pu_ret | apply pu_seq | apply pu_asg | apply pu_ifS | apply pu_next | apply pu_par | apply pu_aug | apply pu_for | apply pu_while | apply pu_var | apply pu_c | apply pu_m2 | apply pu_m1 | apply pu_T | apply pu_band | apply pu_bor | apply pu_bnot | apply pu_vand | apply pu_vor | apply pu_if | apply pu_nil | apply pu_cons | apply pu_F | apply pu_chain | apply pu_oNone | apply pu_oSome | apply pu_sl | apply pu_iL | apply pu_iT | apply pu_iS | apply pu_rng1 | apply pu_rng2 | apply pu_rng3 | apply pu_en | apply pu_zp | apply pu_lc))
theorem pf_arm_of_in : PuF m_arm_of_in := pu_fn (by repeat' (first | apply pu_ret | apply pu_seq | apply pu_asg | apply pu_ifS | apply pu_next | apply pu_par | apply pu_aug | apply pu_for | apply pu_while | apply pu_var | apply pu_c | apply pu_m2 | apply pu_m1 | apply pu_T | apply pu_band | apply pu_bor | apply pu_bnot | apply pu_vand | apply pu_vor | apply pu_if | apply pu_nil | apply pu_cons | apply pu_F | apply pu_chain | apply pu_oNone | apply pu_oSome | apply pu_sl | apply pu_iL | apply pu_iT | apply pu_iS | apply pu_rng1 | apply pu_rng2 | apply pu_rng3 | apply pu_en | apply pu_zp | apply pu_lc))
theorem pf_is_arm : PuF m_is_arm := pu_fn (by repeat' (first | apply pu_ret | apply pu_seq | apply pu_asg | apply pu_ifS | apply pu_next | apply pu_par | apply pu_aug | apply pu_for | apply pu_while | apply pu_var | apply pu_c | apply pu_m2 | apply pu_m1 | apply pu_T | apply pu_band | apply pu_bor | apply pu_bnot | apply pu_vand | apply pu_vor | apply pu_if | apply pu_nil | apply pu_cons | apply pu_F | apply pu_chain | apply pu_oNone | apply pu_oSome | apply pu_sl | apply pu_iL | apply pu_iT | apply pu_iS | apply pu_rng1 | apply pu_rng2 | apply pu_rng3 | apply pu_en | apply pu_zp | apply pu_lc | apply (pu_call pf_is_dot)))
theorem pf_is_edge : PuF m_is_edge := pu_fn (by repeat' (first | apply pu_ret | apply pu_seq | apply pu_asg | apply pu_ifS | apply pu_next | apply pu_par | apply pu_aug | apply pu_for | apply pu_while | apply pu_var | apply pu_c | apply pu_m2 | apply pu_m1 | apply pu_T | apply pu_band | apply pu_bor | apply pu_bnot | apply pu_vand | apply pu_vor | apply pu_if | apply pu_nil | apply pu_cons | apply pu_F | apply pu_chain | apply pu_oNone | apply pu_oSome | apply pu_sl | apply pu_iL | apply pu_iT | apply pu_iS | apply pu_rng1 | apply pu_rng2 | apply pu_rng3 | apply pu_en | apply pu_zp | apply pu_lc | apply (pu_call pf_is_long) | apply (pu_call pf_is_dot) | apply (pu_call pf_is_arm) | apply (pu_call pf_arm_of_in)))
theorem pf_is_on : PuF m_is_on := pu_fn (by repeat' (first | apply pu_ret | apply pu_seq | apply pu_asg | apply pu_ifS | apply pu_next | apply pu_par | apply pu_aug | apply pu_for | apply pu_while | apply pu_var | apply pu_c | apply pu_m2 | apply pu_m1 | apply pu_T | apply pu_band | apply pu_bor | apply pu_bnot | apply pu_vand | apply pu_vor | apply pu_if | apply pu_nil | apply pu_cons | apply pu_F | apply pu_chain | apply pu_oNone | apply pu_oSome | apply pu_sl | apply pu_iL | apply pu_iT | apply pu_iS | apply pu_rng1 | apply pu_rng2 | apply pu_rng3 | apply pu_en | apply pu_zp | apply pu_lc | apply (pu_call pf_turn_in)))
theorem pf_touch : PuF m_touch := pu_fn (by repeat' (first | apply pu_ret | apply pu_seq | apply pu_asg | apply pu_ifS | apply pu_next | apply pu_par | apply pu_aug | apply pu_for | apply pu_while | apply pu_var | apply pu_c | apply pu_m2 | apply pu_m1 | apply pu_T | apply pu_band | apply pu_bor | apply pu_bnot | apply pu_vand | apply pu_vor | apply pu_if | apply pu_nil | apply pu_cons | apply pu_F | apply pu_chain | apply pu_oNone | apply pu_oSome | apply pu_sl | apply pu_iL | apply pu_iT | apply pu_iS | apply pu_rng1 | apply pu_rng2 | apply pu_rng3 | apply pu_en | apply pu_zp | apply pu_lc | apply (pu_call pf_turn_in) | apply (pu_call pf_is_on)))
theorem pf_run_from : PuF m_run_from := pu_fn (by repeat' (first | apply pu_ret | apply pu_seq | apply pu_asg | apply pu_ifS | apply pu_next | apply pu_par | apply pu_aug | apply pu_for | apply pu_while | apply pu_var | apply pu_c | apply pu_m2 | apply pu_m1 | apply pu_T | apply pu_band | apply pu_bor | apply pu_bnot | apply pu_vand | apply pu_vor | apply pu_if | apply pu_nil | apply pu_cons | apply pu_F | apply pu_chain | apply pu_oNone | apply pu_oSome | apply pu_sl | apply pu_iL | apply pu_iT | apply pu_iS | apply pu_rng1 | apply pu_rng2 | apply pu_rng3 | apply pu_en | apply pu_zp | apply pu_lc))
theorem pf_is_figures : PuF m_is_figures := pu_fn (by repeat' (first | apply pu_ret | apply pu_seq | apply pu_asg | apply pu_ifS | apply pu_next | apply pu_par | apply pu_aug | apply pu_for | apply pu_while | apply pu_var | apply pu_c | apply pu_m2 | apply pu_m1 | apply pu_T | apply pu_band | apply pu_bor | apply pu_bnot | apply pu_vand | apply pu_vor | apply pu_if | apply pu_nil | apply pu_cons | apply pu_F | apply pu_chain | apply pu_oNone | apply pu_oSome | apply pu_sl | apply pu_iL | apply pu_iT | apply pu_iS | apply pu_rng1 | apply pu_rng2 | apply pu_rng3 | apply pu_en | apply pu_zp | apply pu_lc))
theorem pf_number_of : PuF m_number_of := pu_fn (by repeat' (first | apply pu_ret | apply pu_seq | apply pu_asg | apply pu_ifS | apply pu_next | apply pu_par | apply pu_aug | apply pu_for | apply pu_while | apply pu_var | apply pu_c | apply pu_m2 | apply pu_m1 | apply pu_T | apply pu_band | apply pu_bor | apply pu_bnot | apply pu_vand | apply pu_vor | apply pu_if | apply pu_nil | apply pu_cons | apply pu_F | apply pu_chain | apply pu_oNone | apply pu_oSome | apply pu_sl | apply pu_iL | apply pu_iT | apply pu_iS | apply pu_rng1 | apply pu_rng2 | apply pu_rng3 | apply pu_en | apply pu_zp | apply pu_lc | apply (pu_call pf_is_figures)))
theorem pf_is_plan_told : PuF m_is_plan_told := pu_fn (by repeat' (first | apply pu_ret | apply pu_seq | apply pu_asg | apply pu_ifS | apply pu_next | apply pu_par | apply pu_aug | apply pu_for | apply pu_while | apply pu_var | apply pu_c | apply pu_m2 | apply pu_m1 | apply pu_T | apply pu_band | apply pu_bor | apply pu_bnot | apply pu_vand | apply pu_vor | apply pu_if | apply pu_nil | apply pu_cons | apply pu_F | apply pu_chain | apply pu_oNone | apply pu_oSome | apply pu_sl | apply pu_iL | apply pu_iT | apply pu_iS | apply pu_rng1 | apply pu_rng2 | apply pu_rng3 | apply pu_en | apply pu_zp | apply pu_lc | apply (pu_call pf_is_long) | apply (pu_call pf_is_number)))
theorem pf_pairs_told : PuF m_pairs_told := pu_fn (by repeat' (first | apply pu_ret | apply pu_seq | apply pu_asg | apply pu_ifS | apply pu_next | apply pu_par | apply pu_aug | apply pu_for | apply pu_while | apply pu_var | apply pu_c | apply pu_m2 | apply pu_m1 | apply pu_T | apply pu_band | apply pu_bor | apply pu_bnot | apply pu_vand | apply pu_vor | apply pu_if | apply pu_nil | apply pu_cons | apply pu_F | apply pu_chain | apply pu_oNone | apply pu_oSome | apply pu_sl | apply pu_iL | apply pu_iT | apply pu_iS | apply pu_rng1 | apply pu_rng2 | apply pu_rng3 | apply pu_en | apply pu_zp | apply pu_lc | apply (pu_call pf_number_of)))
theorem pf_edge_told : PuF m_edge_told := pu_fn (by repeat' (first | apply pu_ret | apply pu_seq | apply pu_asg | apply pu_ifS | apply pu_next | apply pu_par | apply pu_aug | apply pu_for | apply pu_while | apply pu_var | apply pu_c | apply pu_m2 | apply pu_m1 | apply pu_T | apply pu_band | apply pu_bor | apply pu_bnot | apply pu_vand | apply pu_vor | apply pu_if | apply pu_nil | apply pu_cons | apply pu_F | apply pu_chain | apply pu_oNone | apply pu_oSome | apply pu_sl | apply pu_iL | apply pu_iT | apply pu_iS | apply pu_rng1 | apply pu_rng2 | apply pu_rng3 | apply pu_en | apply pu_zp | apply pu_lc | apply (pu_call pf_pairs_told) | apply (pu_call pf_is_edge)))
theorem pf_turn_told : PuF m_turn_told := pu_fn (by repeat' (first | apply pu_ret | apply pu_seq | apply pu_asg | apply pu_ifS | apply pu_next | apply pu_par | apply pu_aug | apply pu_for | apply pu_while | apply pu_var | apply pu_c | apply pu_m2 | apply pu_m1 | apply pu_T | apply pu_band | apply pu_bor | apply pu_bnot | apply pu_vand | apply pu_vor | apply pu_if | apply pu_nil | apply pu_cons | apply pu_F | apply pu_chain | apply pu_oNone | apply pu_oSome | apply pu_sl | apply pu_iL | apply pu_iT | apply pu_iS | apply pu_rng1 | apply pu_rng2 | apply pu_rng3 | apply pu_en | apply pu_zp | apply pu_lc | apply (pu_call pf_pairs_told) | apply (pu_call pf_is_plan_told)))
theorem pf_area_in : PuF m_area_in := pu_fn (by repeat' (first | apply pu_ret | apply pu_seq | apply pu_asg | apply pu_ifS | apply pu_next | apply pu_par | apply pu_aug | apply pu_for | apply pu_while | apply pu_var | apply pu_c | apply pu_m2 | apply pu_m1 | apply pu_T | apply pu_band | apply pu_bor | apply pu_bnot | apply pu_vand | apply pu_vor | apply pu_if | apply pu_nil | apply pu_cons | apply pu_F | apply pu_chain | apply pu_oNone | apply pu_oSome | apply pu_sl | apply pu_iL | apply pu_iT | apply pu_iS | apply pu_rng1 | apply pu_rng2 | apply pu_rng3 | apply pu_en | apply pu_zp | apply pu_lc))
theorem pf_sides_of : PuF m_sides_of := pu_fn (by repeat' (first | apply pu_ret | apply pu_seq | apply pu_asg | apply pu_ifS | apply pu_next | apply pu_par | apply pu_aug | apply pu_for | apply pu_while | apply pu_var | apply pu_c | apply pu_m2 | apply pu_m1 | apply pu_T | apply pu_band | apply pu_bor | apply pu_bnot | apply pu_vand | apply pu_vor | apply pu_if | apply pu_nil | apply pu_cons | apply pu_F | apply pu_chain | apply pu_oNone | apply pu_oSome | apply pu_sl | apply pu_iL | apply pu_iT | apply pu_iS | apply pu_rng1 | apply pu_rng2 | apply pu_rng3 | apply pu_en | apply pu_zp | apply pu_lc))
theorem pf_are_corners : PuF m_are_corners := pu_fn (by repeat' (first | apply pu_ret | apply pu_seq | apply pu_asg | apply pu_ifS | apply pu_next | apply pu_par | apply pu_aug | apply pu_for | apply pu_while | apply pu_var | apply pu_c | apply pu_m2 | apply pu_m1 | apply pu_T | apply pu_band | apply pu_bor | apply pu_bnot | apply pu_vand | apply pu_vor | apply pu_if | apply pu_nil | apply pu_cons | apply pu_F | apply pu_chain | apply pu_oNone | apply pu_oSome | apply pu_sl | apply pu_iL | apply pu_iT | apply pu_iS | apply pu_rng1 | apply pu_rng2 | apply pu_rng3 | apply pu_en | apply pu_zp | apply pu_lc | apply (pu_call pf_sides_of) | apply (pu_call pf_turn_in) | apply (pu_call pf_touch)))
theorem pf_is_field : PuF m_is_field := pu_fn (by repeat' (first | apply pu_ret | apply pu_seq | apply pu_asg | apply pu_ifS | apply pu_next | apply pu_par | apply pu_aug | apply pu_for | apply pu_while | apply pu_var | apply pu_c | apply pu_m2 | apply pu_m1 | apply pu_T | apply pu_band | apply pu_bor | apply pu_bnot | apply pu_vand | apply pu_vor | apply pu_if | apply pu_nil | apply pu_cons | apply pu_F | apply pu_chain | apply pu_oNone | apply pu_oSome | apply pu_sl | apply pu_iL | apply pu_iT | apply pu_iS | apply pu_rng1 | apply pu_rng2 | apply pu_rng3 | apply pu_en | apply pu_zp | apply pu_lc | apply (pu_call pf_is_dot) | apply (pu_call pf_are_corners) | apply (pu_call pf_area_in)))
theorem pf_law_pairs_round : PuF m_law_pairs_round := pu_fn (by repeat' (first | apply pu_ret | apply pu_seq | apply pu_asg | apply pu_ifS | apply pu_next | apply pu_par | apply pu_aug | apply pu_for | apply pu_while | apply pu_var | apply pu_c | apply pu_m2 | apply pu_m1 | apply pu_T | apply pu_band | apply pu_bor | apply pu_bnot | apply pu_vand | apply pu_vor | apply pu_if | apply pu_nil | apply pu_cons | apply pu_F | apply pu_chain | apply pu_oNone | apply pu_oSome | apply pu_sl | apply pu_iL | apply pu_iT | apply pu_iS | apply pu_rng1 | apply pu_rng2 | apply pu_rng3 | apply pu_en | apply pu_zp | apply pu_lc))
theorem pf_law_told_round : PuF m_law_told_round := pu_fn (by repeat' (first | apply pu_ret | apply pu_seq | apply pu_asg | apply pu_ifS | apply pu_next | apply pu_par | apply pu_aug | apply pu_for | apply pu_while | apply pu_var | apply pu_c | apply pu_m2 | apply pu_m1 | apply pu_T | apply pu_band | apply pu_bor | apply pu_bnot | apply pu_vand | apply pu_vor | apply pu_if | apply pu_nil | apply pu_cons | apply pu_F | apply pu_chain | apply pu_oNone | apply pu_oSome | apply pu_sl | apply pu_iL | apply pu_iT | apply pu_iS | apply pu_rng1 | apply pu_rng2 | apply pu_rng3 | apply pu_en | apply pu_zp | apply pu_lc | apply (pu_call pf_law_pairs_round)))
theorem pf_law_grounds : PuF m_law_grounds := pu_fn (by repeat' (first | apply pu_ret | apply pu_seq | apply pu_asg | apply pu_ifS | apply pu_next | apply pu_par | apply pu_aug | apply pu_for | apply pu_while | apply pu_var | apply pu_c | apply pu_m2 | apply pu_m1 | apply pu_T | apply pu_band | apply pu_bor | apply pu_bnot | apply pu_vand | apply pu_vor | apply pu_if | apply pu_nil | apply pu_cons | apply pu_F | apply pu_chain | apply pu_oNone | apply pu_oSome | apply pu_sl | apply pu_iL | apply pu_iT | apply pu_iS | apply pu_rng1 | apply pu_rng2 | apply pu_rng3 | apply pu_en | apply pu_zp | apply pu_lc))
theorem pf_law_faults : PuF m_law_faults := pu_fn (by repeat' (first | apply pu_ret | apply pu_seq | apply pu_asg | apply pu_ifS | apply pu_next | apply pu_par | apply pu_aug | apply pu_for | apply pu_while | apply pu_var | apply pu_c | apply pu_m2 | apply pu_m1 | apply pu_T | apply pu_band | apply pu_bor | apply pu_bnot | apply pu_vand | apply pu_vor | apply pu_if | apply pu_nil | apply pu_cons | apply pu_F | apply pu_chain | apply pu_oNone | apply pu_oSome | apply pu_sl | apply pu_iL | apply pu_iT | apply pu_iS | apply pu_rng1 | apply pu_rng2 | apply pu_rng3 | apply pu_en | apply pu_zp | apply pu_lc))
theorem pf_line_pieces : PuF m_line_pieces := px_fn (by repeat' (first | apply px_up | apply px_next | apply px_seq | apply px_fz | apply px_if | apply px_upE | apply px_nil | apply px_cons | apply px_set | apply px_par | apply px_par3 | apply px_retT | apply px_app | apply px_while | apply px_for | apply px_thaw | apply px_newL | apply px_raise | apply pu_ret | apply pu_seq | apply pu_asg | apply pu_ifS | apply pu_next | apply pu_par | apply pu_aug | apply pu_for | apply pu_while | apply pu_var | apply pu_c | apply pu_m2 | apply pu_m1 | apply pu_T | apply pu_band | apply pu_bor | apply pu_bnot | apply pu_vand | apply pu_vor | apply pu_if | apply pu_nil | apply pu_cons | apply pu_F | apply pu_chain | apply pu_oNone | apply pu_oSome | apply pu_sl | apply pu_iL | apply pu_iT | apply pu_iS | apply pu_rng1 | apply pu_rng2 | apply pu_rng3 | apply pu_en | apply pu_zp | apply pu_lc | apply (pu_call pf_run_from)))
theorem pf_pieces : PuF m_pieces := px_fn (by repeat' (first | apply px_up | apply px_next | apply px_seq | apply px_fz | apply px_if | apply px_upE | apply px_nil | apply px_cons | apply px_set | apply px_par | apply px_par3 | apply px_retT | apply px_app | apply px_while | apply px_for | apply px_thaw | apply px_newL | apply px_raise | apply pu_ret | apply pu_seq | apply pu_asg | apply pu_ifS | apply pu_next | apply pu_par | apply pu_aug | apply pu_for | apply pu_while | apply pu_var | apply pu_c | apply pu_m2 | apply pu_m1 | apply pu_T | apply pu_band | apply pu_bor | apply pu_bnot | apply pu_vand | apply pu_vor | apply pu_if | apply pu_nil | apply pu_cons | apply pu_F | apply pu_chain | apply pu_oNone | apply pu_oSome | apply pu_sl | apply pu_iL | apply pu_iT | apply pu_iS | apply pu_rng1 | apply pu_rng2 | apply pu_rng3 | apply pu_en | apply pu_zp | apply pu_lc | apply (px_setR pf_line_pieces) | apply (px_extR pf_line_pieces)))
theorem pf_rows_of_pieces : PuF m_rows_of_pieces := fun ds => by
  match ds with
  | [] => exact ⟨none, fun s => rfl⟩
  | .str x :: [] =>
    obtain ⟨o, h⟩ := pf_pieces [.str x]
    rcases o with _ | d | i
    · exact ⟨none, fun s => by simp only [m_rows_of_pieces, h, wt]⟩
    · cases d with
      | list items =>
        rcases hp : prs? items with _ | ps
        · exact ⟨none, fun s => by simp only [m_rows_of_pieces, h, wt, hp]⟩
        · by_cases e : ps.length < line
          · exact ⟨some (.inl (.list ((rowsOf ps).map encRw))), fun s => by simp only [m_rows_of_pieces, h, wt, hp]; rw [if_pos e]⟩
          · exact ⟨none, fun s => by simp only [m_rows_of_pieces, h, wt, hp]; rw [if_neg e]⟩
      | _ => exact ⟨none, fun s => by simp only [m_rows_of_pieces, h, wt]⟩
    · exact ⟨some (.inr i), fun s => by simp only [m_rows_of_pieces, h, wt]⟩
  | .none :: [] => exact ⟨none, fun s => rfl⟩
  | .bool _ :: [] => exact ⟨none, fun s => rfl⟩
  | .int _ :: [] => exact ⟨none, fun s => rfl⟩
  | .list _ :: [] => exact ⟨none, fun s => rfl⟩
  | .tuple _ :: [] => exact ⟨none, fun s => rfl⟩
  | .dict _ :: [] => exact ⟨none, fun s => rfl⟩
  | _ :: _ :: _ => exact ⟨none, fun s => by
    unfold m_rows_of_pieces
    split
    · rename_i e
      cases e
    · rfl⟩
theorem pf_read_sheet : PuF m_read_sheet := px_fn (by repeat' (first | apply px_up | apply px_next | apply px_seq | apply px_fz | apply px_if | apply px_upE | apply px_nil | apply px_cons | apply px_set | apply px_par | apply px_par3 | apply px_retT | apply px_app | apply px_while | apply px_for | apply px_thaw | apply px_newL | apply px_raise | apply pu_ret | apply pu_seq | apply pu_asg | apply pu_ifS | apply pu_next | apply pu_par | apply pu_aug | apply pu_for | apply pu_while | apply pu_var | apply pu_c | apply pu_m2 | apply pu_m1 | apply pu_T | apply pu_band | apply pu_bor | apply pu_bnot | apply pu_vand | apply pu_vor | apply pu_if | apply pu_nil | apply pu_cons | apply pu_F | apply pu_chain | apply pu_oNone | apply pu_oSome | apply pu_sl | apply pu_iL | apply pu_iT | apply pu_iS | apply pu_rng1 | apply pu_rng2 | apply pu_rng3 | apply pu_en | apply pu_zp | apply pu_lc | apply (pu_call pf_pairs_told) | apply (pu_call pf_is_field) | apply (pu_call pf_edge_told) | apply (pu_call pf_turn_told) | apply (px_setR pf_rows_of_pieces) | apply (px_extR pf_rows_of_pieces)))
theorem pf_law_sheet_rows : PuF m_law_sheet_rows := px_fnL (by repeat' (first | apply px_up | apply px_next | apply px_seq | apply px_fz | apply px_if | apply px_upE | apply px_nil | apply px_cons | apply px_set | apply px_par | apply px_par3 | apply px_retT | apply px_app | apply px_while | apply px_for | apply px_thaw | apply px_newL | apply px_raise | apply pu_ret | apply pu_seq | apply pu_asg | apply pu_ifS | apply pu_next | apply pu_par | apply pu_aug | apply pu_for | apply pu_while | apply pu_var | apply pu_c | apply pu_m2 | apply pu_m1 | apply pu_T | apply pu_band | apply pu_bor | apply pu_bnot | apply pu_vand | apply pu_vor | apply pu_if | apply pu_nil | apply pu_cons | apply pu_F | apply pu_chain | apply pu_oNone | apply pu_oSome | apply pu_sl | apply pu_iL | apply pu_iT | apply pu_iS | apply pu_rng1 | apply pu_rng2 | apply pu_rng3 | apply pu_en | apply pu_zp | apply pu_lc))
theorem pf_law_heard : PuF m_law_heard := fun ds => by
  match ds with
  | [] => exact ⟨none, fun s => rfl⟩
  | .str x :: [] =>
    obtain ⟨o, h⟩ := pf_read_sheet [.str x]
    rcases o with _ | d | i
    · exact ⟨none, fun s => by simp only [m_law_heard, h, wt]⟩
    · exact ⟨some d, fun s => by simp only [m_law_heard, h, wt]⟩
    · exact ⟨some (.list [.int i, .bool true]), fun s => by simp only [m_law_heard, h, wt]⟩
  | .none :: [] => exact ⟨none, fun s => rfl⟩
  | .bool _ :: [] => exact ⟨none, fun s => rfl⟩
  | .int _ :: [] => exact ⟨none, fun s => rfl⟩
  | .list _ :: [] => exact ⟨none, fun s => rfl⟩
  | .tuple _ :: [] => exact ⟨none, fun s => rfl⟩
  | .dict _ :: [] => exact ⟨none, fun s => rfl⟩
  | _ :: _ :: _ => exact ⟨none, fun s => by
    unfold m_law_heard
    split
    · rename_i e
      cases e
    · rfl⟩
theorem pf_none {α : Type} : PuF (fun _ _ => (none : Option (α × Tn))) := fun _ => ⟨none, fun _ => rfl⟩
theorem pf_same1 {f : Mf} (h : PuF f) : PuF (mFn 4 2 (c_law_same f)) := pu_fn (by repeat' (first | apply pu_ret | apply pu_seq | apply pu_asg | apply pu_ifS | apply pu_next | apply pu_par | apply pu_aug | apply pu_for | apply pu_while | apply pu_var | apply pu_c | apply pu_m2 | apply pu_m1 | apply pu_T | apply pu_band | apply pu_bor | apply pu_bnot | apply pu_vand | apply pu_vor | apply pu_if | apply pu_nil | apply pu_cons | apply pu_F | apply pu_chain | apply pu_oNone | apply pu_oSome | apply pu_sl | apply pu_iL | apply pu_iT | apply pu_iS | apply pu_rng1 | apply pu_rng2 | apply pu_rng3 | apply pu_en | apply pu_zp | apply pu_lc | exact pu_call h (pu_cons (pu_var _) (pu_cons (pu_var _) pu_nil))))
theorem pf_law_same : ∀ n, PuF (m_law_same n)
  | 0 => pf_none
  | n + 1 => pf_same1 (pf_law_same n)
end Md
-- My5
set_option Elab.async false
set_option linter.all false
set_option maxRecDepth 100000
set_option maxHeartbeats 4000000
/-! run_from, line_pieces upon plain signs. -/
namespace Md
open PySem PySem.Spec PyProof.Rows L2
open _root_.SX (S)
set_option autoImplicit false
def signs : List Nat := ("abcdefghijklmnopqrstuvwxyz0123456789-" : Str).cps.toList
def isSign (c : Nat) : Bool := decide (c ∈ signs)
abbrev condRF : mB := mBand (mT (m2 dLt (mVar 2) (mF dLen (mCons (mVar 0) mNil)))) (mT (m2 dIn (m2 dIx (mVar 0) (mVar 2)) (mC (.str ("abcdefghijklmnopqrstuvwxyz0123456789-" : Str)))))
theorem cut_app (a b c : List Nat) : cutS (S (a ++ (b ++ c))) (some (a.length : Int)) (some ((a.length + b.length : Nat) : Int)) = S b := by
  unfold cutS
  rw [HT.sIx_nat, HT.sIx_nat, _root_.SX.S_len]
  have e1 : min a.length (a ++ (b ++ c)).length = a.length := Nat.min_eq_left (by rw [List.length_append]; omega)
  have e2 : min (a.length + b.length) (a ++ (b ++ c)).length = a.length + b.length := Nat.min_eq_left (by rw [List.length_append, List.length_append]; omega)
  rw [e1, e2]
  show S (((a ++ (b ++ c)).drop a.length).take (a.length + b.length - a.length)) = S b
  rw [List.drop_left, Nat.add_sub_cancel_left, List.take_left]
theorem atI_at {α : Type} {xs : List α} {k : Nat} {v : α} (h : xs[k]? = some v) : L2.atI xs (k : Int) = some v := by
  have hp : k < xs.length := by
    by_cases q : k < xs.length
    · exact q
    · rw [List.getElem?_eq_none (by omega)] at h
      cases h
  unfold L2.atI L2.ixN
  rw [if_pos (by omega), if_pos (by omega)]
  exact h
theorem condRF_in {L : List Nat} {x : Option Dt} {p c : Nat} (hl : L.length ≤ line) (h : L[p]? = some c) (s : Tn) : condRF [some (.str (S L)), x, some (.int (p : Int))] s = some (isSign c, s) := by
  have hp : p < L.length := by
    by_cases q : p < L.length
    · exact q
    · rw [List.getElem?_eq_none (by omega)] at h
      cases h
  have hz : (S L).length = L.length := _root_.SX.S_len L
  have e1 : decide ((p : Int) < (L.length : Int)) = true := decide_eq_true (by omega)
  simp only [condRF, mBand, mT, m2, mVar, mF, mCons, mNil, mC, List.getElem?_cons_zero, List.getElem?_cons_succ, dLen, hz, hl, if_true, dLt, e1, dIx, atI_at h]
  rfl
theorem condRF_end {L : List Nat} {x : Option Dt} (hl : L.length ≤ line) (s : Tn) : condRF [some (.str (S L)), x, some (.int (L.length : Int))] s = some (false, s) := by
  have hz : (S L).length = L.length := _root_.SX.S_len L
  have e1 : decide ((L.length : Int) < (L.length : Int)) = false := decide_eq_false (by omega)
  simp only [condRF, mBand, mT, m2, mVar, mF, mCons, mNil, mC, List.getElem?_cons_zero, List.getElem?_cons_succ, dLen, hz, hl, if_true, dLt, e1]
/-- what stands behind a run: nothing, or another sign -/
def stops : List Nat → Bool
  | [] => true
  | c :: _ => !isSign c
theorem rf_loop {x : Option Dt} (s : Tn) : ∀ (w pre r : List Nat) (n : Nat), (pre ++ (w ++ r)).length ≤ line → w.all isSign = true → stops r = true → w.length < n →
    mWhile condRF (mAug 2 (mC (.int 1))) n [some (.str (S (pre ++ (w ++ r)))), x, some (.int (pre.length : Int))] s = some (.nx [some (.str (S (pre ++ (w ++ r)))), x, some (.int ((pre.length + w.length : Nat) : Int))], s)
  | [], pre, r, n + 1, hl, _, hs, _ => by
    have e : condRF [some (.str (S (pre ++ ([] ++ r)))), x, some (.int (pre.length : Int))] s = some (false, s) := by
      cases r with
      | nil =>
        have : (pre ++ ([] ++ [])).length = pre.length := by simp
        rw [← this]
        exact condRF_end hl s
      | cons c r =>
        have hs2 : isSign c = false := by simpa [stops] using hs
        rw [← hs2]
        exact condRF_in (p := pre.length) (c := c) hl (by simp) s
    unfold mWhile
    rw [e]
    rfl
  | c :: w, pre, r, n + 1, hl, hw, hs, hn => by
    rw [List.all_cons, Bool.and_eq_true] at hw
    have e : condRF [some (.str (S (pre ++ (c :: w ++ r)))), x, some (.int (pre.length : Int))] s = some (true, s) := by
      rw [← hw.1]
      exact condRF_in (p := pre.length) (c := c) hl (by simp) s
    have a : pre ++ (c :: w ++ r) = (pre ++ [c]) ++ (w ++ r) := by simp
    have ih := rf_loop (x := x) s w (pre ++ [c]) r n (by rw [← a]; exact hl) hw.2 hs (by simp only [List.length_cons] at hn; omega)
    rw [← a] at ih
    have l1 : (pre ++ [c]).length = pre.length + 1 := by simp
    rw [l1] at ih
    unfold mWhile
    rw [e]
    have m : mAug 2 (mC (.int 1)) [some (.str (S (pre ++ (c :: w ++ r)))), x, some (.int (pre.length : Int))] s = some (.nx [some (.str (S (pre ++ (c :: w ++ r)))), x, some (.int ((pre.length + 1 : Nat) : Int))], s) := rfl
    dsimp only
    rw [m]
    dsimp only
    rw [ih]
    have l2 : pre.length + 1 + w.length = pre.length + (c :: w).length := by
      rw [List.length_cons]
      omega
    rw [l2]
theorem run_from_is {pre w r : List Nat} (hl : (pre ++ (w ++ r)).length < line) (hw : w.all isSign = true) (hs : stops r = true) (s : Tn) : m_run_from [.str (S (pre ++ (w ++ r))), .int (pre.length : Int)] s = some (.str (S w), s) := by
  have e := rf_loop (x := some (.int (pre.length : Int))) s w pre r line (Nat.le_of_lt hl) hw hs (Nat.lt_of_le_of_lt (by rw [List.length_append, List.length_append]; omega) hl)
  have hz : (S (pre ++ (w ++ r))).length ≤ line := by
    rw [_root_.SX.S_len]
    exact Nat.le_of_lt hl
  unfold m_run_from mFn
  rw [if_pos (show ([_, _] : List Dt).length = 2 from rfl)]
  have h : c_run_from (initE 3 [.str (S (pre ++ (w ++ r))), .int (pre.length : Int)]) s = some (.rt (.str (S w)), s) := by
    show mSeq (mAsg (mVar 1) (aName 2)) (mSeq (mWhile condRF (mAug 2 (mC (.int 1))) line) (mRet (mSl (mVar 0) (oSome (mVar 1)) (oSome (mVar 2))))) [some (.str (S (pre ++ (w ++ r)))), some (.int (pre.length : Int)), none] s = _
    have h1 : mAsg (mVar 1) (aName 2) [some (.str (S (pre ++ (w ++ r)))), some (.int (pre.length : Int)), none] s = some (.nx [some (.str (S (pre ++ (w ++ r)))), some (.int (pre.length : Int)), some (.int (pre.length : Int))], s) := rfl
    have h2 : mRet (mSl (mVar 0) (oSome (mVar 1)) (oSome (mVar 2))) [some (.str (S (pre ++ (w ++ r)))), some (.int (pre.length : Int)), some (.int ((pre.length + w.length : Nat) : Int))] s = some (.rt (.str (S w)), s) := by
      simp only [mRet, mSl, mVar, oSome, List.getElem?_cons_zero, List.getElem?_cons_succ, dSl, hz, if_true]
      rw [cut_app]
    unfold mSeq
    rw [h1]
    dsimp only
    rw [e]
    dsimp only
    exact h2
  rw [h]
end Md
-- My6
set_option Elab.async false
set_option linter.all false
set_option maxRecDepth 100000
set_option maxHeartbeats 4000000
/-! line_pieces upon plain signs. -/
namespace Md
open PySem PySem.Spec PyProof.Rows L2
open _root_.SX (S)
set_option autoImplicit false
theorem S1_eq (c d : Nat) : decide ((⟨#[c]⟩ : Str) = S [d]) = decide (c = d) := by
  by_cases h : c = d
  · subst h
    rw [decide_eq_true (rfl : c = c)]
    exact decide_eq_true rfl
  · rw [decide_eq_false h]
    refine decide_eq_false fun z => h ?_
    have := _root_.SX.S_inj (a := [c]) (b := [d]) z
    cases this
    rfl
theorem lit_hash : ("#" : Str) = S [35] := by decide +kernel
theorem lit_sp : (" " : Str) = S [32] := by decide +kernel
theorem lit_nil : ("" : Str) = S [] := by decide +kernel
theorem lit_nl : ("\n" : Str) = S [10] := by decide +kernel
theorem S_ne_nil {w : List Nat} (h : w ≠ []) : decide (S w = S []) = false := decide_eq_false fun z => h (_root_.SX.S_inj z)
abbrev condLP : mXB := fz (mBand (mT (m2 dLt (mVar 3) (mF dLen (mCons (mVar 0) mNil)))) (mT (m2 dNe (m2 dIx (mVar 0) (mVar 3)) (mC (.str ("#" : Str))))))
abbrev bodyLP : mX := mSeqX (mUp (mAsg (mCall m_run_from (mCons (mVar 0) (mCons (mVar 3) mNil))) (aName 4))) (mSeqX (mIfX (fz (mT (m2 dNe (mVar 4) (mC (.str ("" : Str)))))) (mApp 2 (mF dTup (mCons (mVar 4) (mCons (mVar 1) mNil)))) (mIfX (fz (mT (m2 dNe (m2 dIx (mVar 0) (mVar 3)) (mC (.str (" " : Str)))))) (mRaise (mVar 1)) mNextX)) (mUp (mAug 3 (mF dMax2 (mCons (mC (.int 1)) (mCons (mF dLen (mCons (mVar 4) mNil)) mNil))))))
abbrev envLP (L : List Nat) (k : Int) (p : Nat) (x : Option Dt) : Ev := [some (.str (S L)), some (.int k), some (opq 0), some (.int (p : Int)), x]
theorem thawLP {L : List Nat} {k : Int} {p : Nat} {x : Option Dt} {fs : List Dt} : thaw [fs] (envLP L k p x) = [some (.str (S L)), some (.int k), some (.list fs), some (.int (p : Int)), x.map (thawD [fs])] := rfl
theorem condLP_in {L : List Nat} {k : Int} {p c : Nat} {x : Option Dt} {fs : List Dt} (hl : L.length ≤ line) (h : L[p]? = some c) (s : Tn) : condLP (envLP L k p x) s [fs] = some (!decide (c = 35), s) := by
  have hp : p < L.length := by
    by_cases q : p < L.length
    · exact q
    · rw [List.getElem?_eq_none (by omega)] at h
      cases h
  have hz : (S L).length = L.length := _root_.SX.S_len L
  have e1 : decide ((p : Int) < (L.length : Int)) = true := decide_eq_true (by omega)
  show fz _ _ _ _ = _
  unfold fz
  rw [thawLP]
  simp only [mBand, mT, m2, mVar, mF, mCons, mNil, mC, List.getElem?_cons_zero, List.getElem?_cons_succ, dLen, hz, hl, if_true, dLt, e1, dIx, atI_at h, dNe, lit_hash, S1_eq]
theorem condLP_end {L : List Nat} {k : Int} {x : Option Dt} {fs : List Dt} (hl : L.length ≤ line) (s : Tn) : condLP (envLP L k L.length x) s [fs] = some (false, s) := by
  have hz : (S L).length = L.length := _root_.SX.S_len L
  have e1 : decide ((L.length : Int) < (L.length : Int)) = false := decide_eq_false (by omega)
  show fz _ _ _ _ = _
  unfold fz
  rw [thawLP]
  simp only [mBand, mT, m2, mVar, mF, mCons, mNil, mC, List.getElem?_cons_zero, List.getElem?_cons_succ, dLen, hz, hl, if_true, dLt, e1]
theorem up_run {pre w r : List Nat} {k : Int} {x : Option Dt} {fs : List Dt} (hl : (pre ++ (w ++ r)).length < line) (hw : w.all isSign = true) (hs : stops r = true) (s : Tn) :
    mUp (mAsg (mCall m_run_from (mCons (mVar 0) (mCons (mVar 3) mNil))) (aName 4)) (envLP (pre ++ (w ++ r)) k pre.length x) s [fs] = some (.fl (.nx (envLP (pre ++ (w ++ r)) k pre.length (some (.str (S w))))), s, [fs]) := by
  simp only [mUp, mAsg, mCall, mCons, mNil, mVar, envLP, List.getElem?_cons_zero, List.getElem?_cons_succ, run_from_is hl hw hs, aName, List.set_cons_succ, List.set_cons_zero]
theorem up_aug {L w : List Nat} {k : Int} {p : Nat} {fs : List Dt} (hw : w.length ≤ line) (s : Tn) :
    mUp (mAug 3 (mF dMax2 (mCons (mC (.int 1)) (mCons (mF dLen (mCons (mVar 4) mNil)) mNil)))) (envLP L k p (some (.str (S w)))) s [fs] = some (.fl (.nx (envLP L k (p + max 1 w.length) (some (.str (S w))))), s, [fs]) := by
  have hz : (S w).length = w.length := _root_.SX.S_len w
  have e : (p : Int) + (if (w.length : Int) > 1 then (w.length : Int) else 1) = ((p + max 1 w.length : Nat) : Int) := by
    split <;> omega
  simp only [mUp, mAug, mF, mCons, mNil, mVar, mC, envLP, List.getElem?_cons_zero, List.getElem?_cons_succ, dLen, hz, hw, if_true, dMax2, e, List.set_cons_succ, List.set_cons_zero]
theorem body_word {pre w r : List Nat} {k : Int} {x : Option Dt} {fs : List Dt} (hl : (pre ++ (w ++ r)).length < line) (hn : w ≠ []) (hw : w.all isSign = true) (hs : stops r = true) (hf : fs.length < line) (s : Tn) :
    bodyLP (envLP (pre ++ (w ++ r)) k pre.length x) s [fs] = some (.fl (.nx (envLP (pre ++ (w ++ r)) k (pre.length + w.length) (some (.str (S w))))), s, [fs ++ [.tuple [.str (S w), .int k]]]) := by
  have h1 := up_run (k := k) (x := x) (fs := fs) hl hw hs s
  have hwl : w.length ≤ line := by
    rw [List.length_append, List.length_append] at hl
    omega
  have hm : max 1 w.length = w.length := by
    cases w with
    | nil => exact absurd rfl hn
    | cons c w =>
      rw [List.length_cons]
      omega
  have h2 : mIfX (fz (mT (m2 dNe (mVar 4) (mC (.str ("" : Str)))))) (mApp 2 (mF dTup (mCons (mVar 4) (mCons (mVar 1) mNil)))) (mIfX (fz (mT (m2 dNe (m2 dIx (mVar 0) (mVar 3)) (mC (.str (" " : Str)))))) (mRaise (mVar 1)) mNextX) (envLP (pre ++ (w ++ r)) k pre.length (some (.str (S w)))) s [fs]
      = some (.fl (.nx (envLP (pre ++ (w ++ r)) k pre.length (some (.str (S w))))), s, [fs ++ [.tuple [.str (S w), .int k]]]) := by
    unfold mIfX
    have c : fz (mT (m2 dNe (mVar 4) (mC (.str ("" : Str))))) (envLP (pre ++ (w ++ r)) k pre.length (some (.str (S w)))) s [fs] = some (true, s) := by
      unfold fz
      rw [thawLP, lit_nil]
      show some (!decide (S w = S []), s) = _
      rw [S_ne_nil hn]
      rfl
    rw [c]
    dsimp only
    have t : mF dTup (mCons (mVar 4) (mCons (mVar 1) mNil)) (envLP (pre ++ (w ++ r)) k pre.length (some (.str (S w)))) s = some (.tuple [.str (S w), .int k], s) := rfl
    have u : unq (opq 0) = some 0 := rfl
    unfold mApp
    simp only [envLP, List.getElem?_cons_zero, List.getElem?_cons_succ, u] at t ⊢
    simp only [t, hf, isTin, and_self, if_true, List.set_cons_zero]
  have h3 := up_aug (L := pre ++ (w ++ r)) (k := k) (p := pre.length) (fs := fs ++ [.tuple [.str (S w), .int k]]) hwl s
  rw [hm] at h3
  show mSeqX _ (mSeqX _ _) _ _ _ = _
  unfold mSeqX
  rw [h1]
  dsimp only
  rw [h2]
  dsimp only
  exact h3
theorem body_one {pre r : List Nat} {c : Nat} {k : Int} {x : Option Dt} {fs : List Dt} (hl : (pre ++ (c :: r)).length < line) (hc : isSign c = false) (s : Tn) :
    bodyLP (envLP (pre ++ (c :: r)) k pre.length x) s [fs] = if c = 32 then some (.fl (.nx (envLP (pre ++ (c :: r)) k (pre.length + 1) (some (.str (S []))))), s, [fs]) else some (.ex k, s, [fs]) := by
  have h1 := up_run (pre := pre) (w := []) (r := c :: r) (k := k) (x := x) (fs := fs) hl rfl (by show (!isSign c) = true; rw [hc]; rfl) s
  rw [List.nil_append] at h1
  have hz : (S (pre ++ (c :: r))).length = (pre ++ (c :: r)).length := _root_.SX.S_len _
  have hle : (pre ++ (c :: r)).length ≤ line := Nat.le_of_lt hl
  have hat : (pre ++ (c :: r))[pre.length]? = some c := by simp
  have c1 : fz (mT (m2 dNe (mVar 4) (mC (.str ("" : Str))))) (envLP (pre ++ (c :: r)) k pre.length (some (.str (S [])))) s [fs] = some (false, s) := by
    unfold fz
    rw [thawLP, lit_nil]
    rfl
  have c2 : fz (mT (m2 dNe (m2 dIx (mVar 0) (mVar 3)) (mC (.str (" " : Str))))) (envLP (pre ++ (c :: r)) k pre.length (some (.str (S [])))) s [fs] = some (!decide (c = 32), s) := by
    unfold fz
    rw [thawLP]
    simp only [mT, m2, mVar, mC, List.getElem?_cons_zero, List.getElem?_cons_succ, hz, hle, if_true, dIx, atI_at hat, dNe, lit_sp, S1_eq]
  have h3 := up_aug (L := pre ++ (c :: r)) (w := []) (k := k) (p := pre.length) (fs := fs) (Nat.zero_le _) s
  show mSeqX _ (mSeqX _ _) _ _ _ = _
  unfold mSeqX
  rw [h1]
  dsimp only
  unfold mIfX
  rw [c1]
  dsimp only
  rw [c2]
  by_cases e : c = 32
  · rw [if_pos e, decide_eq_true e]
    exact h3
  · rw [if_neg e, decide_eq_false e]
    rfl
/-- what is read of a line: its words -/
inductive LPs : List Nat → List (List Nat) → Prop
  | nil : LPs [] []
  | rem (r : List Nat) : LPs (35 :: r) []
  | sp {r : List Nat} {ws : List (List Nat)} : LPs r ws → LPs (32 :: r) ws
  | word {w r : List Nat} {ws : List (List Nat)} : w ≠ [] → w.all isSign = true → stops r = true → LPs r ws → LPs (w ++ r) (w :: ws)
/-- a line with a sign that is none -/
inductive LPb : List Nat → Prop
  | here {c : Nat} (r : List Nat) : isSign c = false → c ≠ 32 → c ≠ 35 → LPb (c :: r)
  | sp {r : List Nat} : LPb r → LPb (32 :: r)
  | word {w r : List Nat} : w ≠ [] → w.all isSign = true → stops r = true → LPb r → LPb (w ++ r)
def pcs (k : Int) (ws : List (List Nat)) : List Dt := ws.map fun w => .tuple [.str (S w), .int k]
theorem sgn32 : isSign 32 = false := by decide +kernel
theorem sgn35 : isSign 35 = false := by decide +kernel
theorem ne35 {c : Nat} (h : isSign c = true) : decide (c = 35) = false := decide_eq_false fun e => by
  rw [e, sgn35] at h
  cases h
theorem wlen {w : List Nat} (h : w ≠ []) : 1 ≤ w.length := by
  cases w with
  | nil => exact absurd rfl h
  | cons c w =>
    rw [List.length_cons]
    omega
theorem lp_loop {k : Int} (s : Tn) {r : List Nat} {ws : List (List Nat)} (h : LPs r ws) : ∀ (pre : List Nat) (n : Nat) (x : Option Dt) (fs : List Dt), (pre ++ r).length < line → fs.length + r.length < line → r.length < n →
    ∃ p x', mWhileX condLP bodyLP n (envLP (pre ++ r) k pre.length x) s [fs] = some (.fl (.nx (envLP (pre ++ r) k p x')), s, [fs ++ pcs k ws]) := by
  induction h with
  | nil =>
    intro pre n x fs hl hf hn
    cases n with
    | zero => cases hn
    | succ n =>
      have e := condLP_end (L := pre ++ []) (k := k) (x := x) (fs := fs) (Nat.le_of_lt hl) s
      have : (pre ++ []).length = pre.length := by simp
      rw [this] at e
      refine ⟨pre.length, x, ?_⟩
      unfold mWhileX
      rw [e]
      show _ = some (Fx.fl (.nx _), s, [fs ++ []])
      rw [List.append_nil fs]
  | rem r =>
    intro pre n x fs hl hf hn
    cases n with
    | zero => cases hn
    | succ n =>
      have e := condLP_in (L := pre ++ (35 :: r)) (k := k) (p := pre.length) (c := 35) (x := x) (fs := fs) (Nat.le_of_lt hl) (by simp) s
      refine ⟨pre.length, x, ?_⟩
      unfold mWhileX
      rw [e]
      show _ = some (Fx.fl (.nx _), s, [fs ++ []])
      rw [List.append_nil fs]
      rfl
  | @sp r ws _ ih =>
    intro pre n x fs hl hf hn
    cases n with
    | zero => cases hn
    | succ n =>
      have e := condLP_in (L := pre ++ (32 :: r)) (k := k) (p := pre.length) (c := 32) (x := x) (fs := fs) (Nat.le_of_lt hl) (by simp) s
      have b := body_one (pre := pre) (r := r) (c := 32) (k := k) (x := x) (fs := fs) hl sgn32 s
      rw [if_pos rfl] at b
      have a : pre ++ (32 :: r) = (pre ++ [32]) ++ r := by simp
      have l1 : (pre ++ [32]).length = pre.length + 1 := by simp
      obtain ⟨p, x', ih⟩ := ih (pre ++ [32]) n (some (.str (S []))) fs (by rw [← a]; exact hl) (by rw [List.length_cons] at hf; omega) (by rw [List.length_cons] at hn; omega)
      rw [← a, l1] at ih
      refine ⟨p, x', ?_⟩
      unfold mWhileX
      rw [e]
      show (match bodyLP _ s [fs] with
        | some (.fl (.nx e), s2, O2) => mWhileX condLP bodyLP n e s2 O2
        | some (.fl (.ct e), s2, O2) => mWhileX condLP bodyLP n e s2 O2
        | some (.fl (.bk e), s2, O2) => some (.fl (.nx e), s2, O2)
        | some (.fl (.rt d), s2, O2) => some (.fl (.rt d), s2, O2)
        | some (.ex i, s2, O2) => some (.ex i, s2, O2)
        | none => none) = _
      rw [b]
      exact ih
  | @word w r ws h0 h1 h2 _ ih =>
    intro pre n x fs hl hf hn
    cases n with
    | zero => cases hn
    | succ n =>
      obtain ⟨c, w', ew⟩ : ∃ c w', w = c :: w' := by
        cases w with
        | nil => exact absurd rfl h0
        | cons c w' => exact ⟨c, w', rfl⟩
      have hc : isSign c = true := by
        rw [ew, List.all_cons, Bool.and_eq_true] at h1
        exact h1.1
      have hw1 := wlen h0
      rw [List.length_append] at hf hn
      have e := condLP_in (L := pre ++ (w ++ r)) (k := k) (p := pre.length) (c := c) (x := x) (fs := fs) (Nat.le_of_lt hl) (by rw [ew]; simp) s
      rw [ne35 hc] at e
      have b := body_word (pre := pre) (w := w) (r := r) (k := k) (x := x) (fs := fs) hl h0 h1 h2 (by omega) s
      have a : pre ++ (w ++ r) = (pre ++ w) ++ r := (List.append_assoc pre w r).symm
      have l1 : (pre ++ w).length = pre.length + w.length := List.length_append
      obtain ⟨p, x', ih⟩ := ih (pre ++ w) n (some (.str (S w))) (fs ++ [.tuple [.str (S w), .int k]]) (by rw [← a]; exact hl) (by rw [List.length_append, List.length_singleton]; omega) (by omega)
      rw [← a, l1] at ih
      refine ⟨p, x', ?_⟩
      unfold mWhileX
      rw [e]
      show (match bodyLP _ s [fs] with
        | some (.fl (.nx e), s2, O2) => mWhileX condLP bodyLP n e s2 O2
        | some (.fl (.ct e), s2, O2) => mWhileX condLP bodyLP n e s2 O2
        | some (.fl (.bk e), s2, O2) => some (.fl (.nx e), s2, O2)
        | some (.fl (.rt d), s2, O2) => some (.fl (.rt d), s2, O2)
        | some (.ex i, s2, O2) => some (.ex i, s2, O2)
        | none => none) = _
      rw [b]
      dsimp only
      rw [ih, List.append_assoc]
      rfl
theorem lp_bad {k : Int} (s : Tn) {r : List Nat} (h : LPb r) : ∀ (pre : List Nat) (n : Nat) (x : Option Dt) (fs : List Dt), (pre ++ r).length < line → fs.length + r.length < line → r.length < n →
    ∃ O', mWhileX condLP bodyLP n (envLP (pre ++ r) k pre.length x) s [fs] = some (.ex k, s, O') := by
  induction h with
  | @here c r h1 h2 h3 =>
    intro pre n x fs hl hf hn
    cases n with
    | zero => cases hn
    | succ n =>
      have e := condLP_in (L := pre ++ (c :: r)) (k := k) (p := pre.length) (c := c) (x := x) (fs := fs) (Nat.le_of_lt hl) (by simp) s
      rw [decide_eq_false h3] at e
      have b := body_one (pre := pre) (r := r) (c := c) (k := k) (x := x) (fs := fs) hl h1 s
      rw [if_neg h2] at b
      refine ⟨[fs], ?_⟩
      unfold mWhileX
      rw [e]
      show (match bodyLP _ s [fs] with
        | some (.fl (.nx e), s2, O2) => mWhileX condLP bodyLP n e s2 O2
        | some (.fl (.ct e), s2, O2) => mWhileX condLP bodyLP n e s2 O2
        | some (.fl (.bk e), s2, O2) => some (.fl (.nx e), s2, O2)
        | some (.fl (.rt d), s2, O2) => some (.fl (.rt d), s2, O2)
        | some (.ex i, s2, O2) => some (.ex i, s2, O2)
        | none => none) = _
      rw [b]
  | @sp r _ ih =>
    intro pre n x fs hl hf hn
    cases n with
    | zero => cases hn
    | succ n =>
      have e := condLP_in (L := pre ++ (32 :: r)) (k := k) (p := pre.length) (c := 32) (x := x) (fs := fs) (Nat.le_of_lt hl) (by simp) s
      have b := body_one (pre := pre) (r := r) (c := 32) (k := k) (x := x) (fs := fs) hl sgn32 s
      rw [if_pos rfl] at b
      have a : pre ++ (32 :: r) = (pre ++ [32]) ++ r := by simp
      have l1 : (pre ++ [32]).length = pre.length + 1 := by simp
      obtain ⟨O', ih⟩ := ih (pre ++ [32]) n (some (.str (S []))) fs (by rw [← a]; exact hl) (by rw [List.length_cons] at hf; omega) (by rw [List.length_cons] at hn; omega)
      rw [← a, l1] at ih
      refine ⟨O', ?_⟩
      unfold mWhileX
      rw [e]
      show (match bodyLP _ s [fs] with
        | some (.fl (.nx e), s2, O2) => mWhileX condLP bodyLP n e s2 O2
        | some (.fl (.ct e), s2, O2) => mWhileX condLP bodyLP n e s2 O2
        | some (.fl (.bk e), s2, O2) => some (.fl (.nx e), s2, O2)
        | some (.fl (.rt d), s2, O2) => some (.fl (.rt d), s2, O2)
        | some (.ex i, s2, O2) => some (.ex i, s2, O2)
        | none => none) = _
      rw [b]
      exact ih
  | @word w r h0 h1 h2 _ ih =>
    intro pre n x fs hl hf hn
    cases n with
    | zero => cases hn
    | succ n =>
      obtain ⟨c, w', ew⟩ : ∃ c w', w = c :: w' := by
        cases w with
        | nil => exact absurd rfl h0
        | cons c w' => exact ⟨c, w', rfl⟩
      have hc : isSign c = true := by
        rw [ew, List.all_cons, Bool.and_eq_true] at h1
        exact h1.1
      have hw1 := wlen h0
      rw [List.length_append] at hf hn
      have e := condLP_in (L := pre ++ (w ++ r)) (k := k) (p := pre.length) (c := c) (x := x) (fs := fs) (Nat.le_of_lt hl) (by rw [ew]; simp) s
      rw [ne35 hc] at e
      have b := body_word (pre := pre) (w := w) (r := r) (k := k) (x := x) (fs := fs) hl h0 h1 h2 (by omega) s
      have a : pre ++ (w ++ r) = (pre ++ w) ++ r := (List.append_assoc pre w r).symm
      have l1 : (pre ++ w).length = pre.length + w.length := List.length_append
      obtain ⟨O', ih⟩ := ih (pre ++ w) n (some (.str (S w))) (fs ++ [.tuple [.str (S w), .int k]]) (by rw [← a]; exact hl) (by rw [List.length_append, List.length_singleton]; omega) (by omega)
      rw [← a, l1] at ih
      refine ⟨O', ?_⟩
      unfold mWhileX
      rw [e]
      show (match bodyLP _ s [fs] with
        | some (.fl (.nx e), s2, O2) => mWhileX condLP bodyLP n e s2 O2
        | some (.fl (.ct e), s2, O2) => mWhileX condLP bodyLP n e s2 O2
        | some (.fl (.bk e), s2, O2) => some (.fl (.nx e), s2, O2)
        | some (.fl (.rt d), s2, O2) => some (.fl (.rt d), s2, O2)
        | some (.ex i, s2, O2) => some (.ex i, s2, O2)
        | none => none) = _
      rw [b]
      exact ih
theorem line_pieces_is {r : List Nat} {ws : List (List Nat)} (h : LPs r ws) (hl : r.length < line) (k : Int) (s : Tn) : m_line_pieces [.str (S r), .int k] s = some (.inl (.list (pcs k ws)), s) := by
  obtain ⟨p, x', e⟩ := lp_loop (k := k) s h [] line none [] hl (by show 0 + _ < _; omega) hl
  unfold m_line_pieces mFnX
  rw [if_pos ⟨rfl, rfl⟩]
  have h2 : c_line_pieces (initE 5 [.str (S r), .int k]) s [] = some (.fl (.rt (.list (pcs k ws))), s, []) := by
    show mSeqX (mParX 2 3 (mConsX (mNewL mNil) (mConsX (mUpE (mC (.int 0))) mNilX))) (mSeqX (mWhileX condLP bodyLP line) (mRetT (mVar 2))) [some (.str (S r)), some (.int k), none, none, none] s [] = _
    have h1 : mParX 2 3 (mConsX (mNewL mNil) (mConsX (mUpE (mC (.int 0))) mNilX)) [some (.str (S r)), some (.int k), none, none, none] s [] = some (.fl (.nx (envLP r k 0 none)), s, [[]]) := rfl
    have h3 : mRetT (mVar 2) (envLP r k p x') s [pcs k ws] = some (.fl (.rt (.list (pcs k ws))), s, []) := rfl
    unfold mSeqX
    rw [h1]
    dsimp only
    have e2 : mWhileX condLP bodyLP line (envLP r k 0 none) s [[]] = some (.fl (.nx (envLP r k p x')), s, [pcs k ws]) := e
    rw [e2]
    dsimp only
    exact h3
  rw [h2]
  rfl
theorem line_pieces_bad {r : List Nat} (h : LPb r) (hl : r.length < line) (k : Int) (s : Tn) : m_line_pieces [.str (S r), .int k] s = some (.inr k, s) := by
  obtain ⟨O', e⟩ := lp_bad (k := k) s h [] line none [] hl (by show 0 + _ < _; omega) hl
  unfold m_line_pieces mFnX
  rw [if_pos ⟨rfl, rfl⟩]
  have h2 : c_line_pieces (initE 5 [.str (S r), .int k]) s [] = some (.ex k, s, O') := by
    show mSeqX (mParX 2 3 (mConsX (mNewL mNil) (mConsX (mUpE (mC (.int 0))) mNilX))) (mSeqX (mWhileX condLP bodyLP line) (mRetT (mVar 2))) [some (.str (S r)), some (.int k), none, none, none] s [] = _
    have h1 : mParX 2 3 (mConsX (mNewL mNil) (mConsX (mUpE (mC (.int 0))) mNilX)) [some (.str (S r)), some (.int k), none, none, none] s [] = some (.fl (.nx (envLP r k 0 none)), s, [[]]) := rfl
    unfold mSeqX
    rw [h1]
    dsimp only
    have e2 : mWhileX condLP bodyLP line (envLP r k 0 none) s [[]] = some (.ex k, s, O') := e
    rw [e2]
  rw [h2]
end Md
-- My7
set_option Elab.async false
set_option linter.all false
set_option maxRecDepth 100000
set_option maxHeartbeats 4000000
/-! pieces and rows upon lines. -/
namespace Md
open PySem PySem.Spec PyProof.Rows L2
open _root_.SX (S)
set_option autoImplicit false
/-- a line and its words -/
abbrev Li := List Nat × List (List Nat)
structure LiOk (l : Li) : Prop where
  lp : LPs l.1 l.2
  nl : 10 ∉ l.1
theorem LPs.len {r : List Nat} {ws : List (List Nat)} (h : LPs r ws) : ws.length ≤ r.length := by
  induction h with
  | nil => exact Nat.le_refl _
  | rem r => exact Nat.zero_le _
  | sp _ ih =>
    rw [List.length_cons]
    omega
  | word h0 _ _ _ ih =>
    have := wlen h0
    rw [List.length_cons, List.length_append]
    omega
def tot : List Li → Nat
  | [] => 0
  | l :: ls => l.1.length + tot ls
def pcsAll (k : Int) : List Li → List Dt
  | [] => []
  | l :: ls => pcs k l.2 ++ pcsAll (k + 1) ls
abbrev gPc : Dt → Ev → Option Ev := aTup 2 (aCons (aName 2) (aCons (aName 3) aNil))
abbrev bPc : mX := mExtR 1 m_line_pieces (mCons (mVar 3) (mCons (mVar 2) mNil))
theorem ext_step {x y : Dt} {k : Int} {l : List Nat} {a b : Option Dt} {es fs : List Dt} (s : Tn) (h : m_line_pieces [.str (S l), .int k] s = some (.inl (.list es), s)) (hl : fs.length + es.length ≤ line) :
    bPc [some x, some (opq 0), some (.int k), some (.str (S l))] s [fs] = some (.fl (.nx [some x, some (opq 0), some (.int k), some (.str (S l))]), s, [fs ++ es]) := by
  have u : unq (opq 0) = some 0 := rfl
  simp only [bPc, mExtR, mCons, mNil, mVar, List.getElem?_cons_zero, List.getElem?_cons_succ, u, h]
  rw [if_pos hl]
  rfl
theorem ext_bad {x y : Dt} {k : Int} {l : List Nat} {a b : Option Dt} {fs : List Dt} (s : Tn) (h : m_line_pieces [.str (S l), .int k] s = some (.inr k, s)) :
    bPc [some x, some (opq 0), some (.int k), some (.str (S l))] s [fs] = some (.ex k, s, [fs]) := by
  have u : unq (opq 0) = some 0 := rfl
  simp only [bPc, mExtR, mCons, mNil, mVar, List.getElem?_cons_zero, List.getElem?_cons_succ, u, h]
theorem pc_loop {x : Dt} (s : Tn) : ∀ (ls : List Li) (k : Int) (a b : Option Dt) (fs : List Dt), (∀ l ∈ ls, LiOk l) → fs.length + tot ls < line →
    ∃ a' b', mForLX gPc bPc (zipD (rngL k ls.length) (ls.map fun l => .str (S l.1))) [some x, some (opq 0), a, b] s [fs] = some (.fl (.nx [some x, some (opq 0), a', b']), s, [fs ++ pcsAll k ls])
  | [], k, a, b, fs, _, _ => ⟨a, b, by rw [pcsAll, List.append_nil] <;> rfl⟩
  | l :: ls, k, a, b, fs, hok, hl => by
    have l1 := hok l List.mem_cons_self
    have hlen := l1.lp.len
    have ht : fs.length + (l.1.length + tot ls) < line := hl
    have hp : (pcs k l.2).length = l.2.length := by
      unfold pcs
      rw [List.length_map]
    have e1 := line_pieces_is l1.lp (by omega) k s
    have e2 := ext_step (x := x) (y := x) (a := a) (b := b) (fs := fs) s e1 (by rw [hp]; omega)
    obtain ⟨a', b', ih⟩ := pc_loop (x := x) s ls (k + 1) (some (.int k)) (some (.str (S l.1))) (fs ++ pcs k l.2) (fun z hz => hok z (List.mem_cons_of_mem _ hz)) (by rw [List.length_append, hp]; omega)
    refine ⟨a', b', ?_⟩
    show (match bPc [some x, some (opq 0), some (.int k), some (.str (S l.1))] s [fs] with
      | some (.fl (.nx e), s2, O2) => mForLX gPc bPc (zipD (rngL (k + 1) ls.length) (ls.map fun (l : Li) => PyData.str (S l.1))) e s2 O2
      | some (.fl (.ct e), s2, O2) => mForLX gPc bPc (zipD (rngL (k + 1) ls.length) (ls.map fun (l : Li) => PyData.str (S l.1))) e s2 O2
      | some (.fl (.bk e), s2, O2) => some (.fl (.nx e), s2, O2)
      | some (.fl (.rt d), s2, O2) => some (.fl (.rt d), s2, O2)
      | some (.ex i, s2, O2) => some (.ex i, s2, O2)
      | none => none) = _
    rw [e2]
    dsimp only
    rw [ih, List.append_assoc]
    rfl
theorem pc_bad {x : Dt} (s : Tn) {m : List Nat} (hm : LPb m) {more : List (List Nat)} : ∀ (ls : List Li) (k : Int) (a b : Option Dt) (fs : List Dt) (n : Nat), n = (ls.map (·.1) ++ m :: more).length → (∀ l ∈ ls, LiOk l) → fs.length + tot ls + m.length < line →
    ∃ O', mForLX gPc bPc (zipD (rngL k n) ((ls.map (·.1) ++ m :: more).map fun l => .str (S l))) [some x, some (opq 0), a, b] s [fs] = some (.ex (k + (ls.length : Int)), s, O')
  | [], k, a, b, fs, n, hn, _, hl => by
    have e1 := line_pieces_bad hm (by omega) k s
    have e2 := ext_bad (x := x) (y := x) (a := a) (b := b) (fs := fs) s e1
    subst hn
    refine ⟨[fs], ?_⟩
    show (match bPc [some x, some (opq 0), some (.int k), some (.str (S m))] s [fs] with
      | some (.fl (.nx e), s2, O2) => mForLX gPc bPc (zipD (rngL (k + 1) more.length) (more.map fun l => .str (S l))) e s2 O2
      | some (.fl (.ct e), s2, O2) => mForLX gPc bPc (zipD (rngL (k + 1) more.length) (more.map fun l => .str (S l))) e s2 O2
      | some (.fl (.bk e), s2, O2) => some (.fl (.nx e), s2, O2)
      | some (.fl (.rt d), s2, O2) => some (.fl (.rt d), s2, O2)
      | some (.ex i, s2, O2) => some (.ex i, s2, O2)
      | none => none) = _
    rw [e2]
    show some (Fx.ex k, s, [fs]) = some (Fx.ex (k + 0), s, [fs])
    rw [Int.add_zero]
  | l :: ls, k, a, b, fs, n, hn, hok, hl => by
    have l1 := hok l List.mem_cons_self
    have hlen := l1.lp.len
    have ht : fs.length + (l.1.length + tot ls) + m.length < line := hl
    have hp : (pcs k l.2).length = l.2.length := by
      unfold pcs
      rw [List.length_map]
    have e1 := line_pieces_is l1.lp (by omega) k s
    have e2 := ext_step (x := x) (y := x) (a := a) (b := b) (fs := fs) s e1 (by rw [hp]; omega)
    obtain ⟨O', ih⟩ := pc_bad (x := x) (more := more) s hm ls (k + 1) (some (.int k)) (some (.str (S l.1))) (fs ++ pcs k l.2) _ rfl (fun z hz => hok z (List.mem_cons_of_mem _ hz)) (by rw [List.length_append, hp]; omega)
    refine ⟨O', ?_⟩
    subst hn
    show (match bPc [some x, some (opq 0), some (.int k), some (.str (S l.1))] s [fs] with
      | some (.fl (.nx e), s2, O2) => mForLX gPc bPc (zipD (rngL (k + 1) ((ls.map fun (l : Li) => l.1) ++ m :: more).length) (((ls.map fun (l : Li) => l.1) ++ m :: more).map fun l => PyData.str (S l))) e s2 O2
      | some (.fl (.ct e), s2, O2) => mForLX gPc bPc (zipD (rngL (k + 1) ((ls.map fun (l : Li) => l.1) ++ m :: more).length) (((ls.map fun (l : Li) => l.1) ++ m :: more).map fun l => PyData.str (S l))) e s2 O2
      | some (.fl (.bk e), s2, O2) => some (.fl (.nx e), s2, O2)
      | some (.fl (.rt d), s2, O2) => some (.fl (.rt d), s2, O2)
      | some (.ex i, s2, O2) => some (.ex i, s2, O2)
      | none => none) = _
    rw [e2]
    dsimp only
    rw [ih]
    have : k + 1 + (ls.length : Int) = k + (((l :: ls).length : Nat) : Int) := by
      rw [List.length_cons]
      omega
    rw [this]
theorem split_lines {ps : List (List Nat)} (hne : ps ≠ []) (h : ∀ p ∈ ps, 10 ∉ p) (hl : (TL.joinL [10] ps).length + 2 ≤ line) : dSplit (.str (S (TL.joinL [10] ps))) (.str ("\n" : Str)) = some (.list (ps.map fun l => .str (S l))) := by
  have e : Txt.split (S (TL.joinL [10] ps)) (S [10]) = ps.map S := by
    rw [_root_.SX.split_S (by decide) (by decide), _root_.SX.spl_join hne h]
  rw [lit_nl]
  unfold dSplit
  dsimp only
  rw [if_pos ⟨by decide, by rw [_root_.SX.S_len]; exact hl⟩, e, List.map_map]
  rfl
theorem tot_join : ∀ (ls : List Li), tot ls ≤ (TL.joinL [10] (ls.map (·.1))).length
  | [] => Nat.zero_le _
  | [l] => by
    show l.1.length + 0 ≤ l.1.length
    omega
  | l :: l2 :: ls => by
    have ih := tot_join (l2 :: ls)
    show l.1.length + tot (l2 :: ls) ≤ (l.1 ++ ([10] ++ TL.joinL [10] ((l2 :: ls).map fun (l : Li) => l.1))).length
    rw [List.length_append, List.length_append]
    omega
theorem pieces_is {ls : List Li} (hne : ls ≠ []) (hok : ∀ l ∈ ls, LiOk l) (hl : (TL.joinL [10] (ls.map (·.1))).length + 2 ≤ line) (s : Tn) : m_pieces [.str (S (TL.joinL [10] (ls.map (·.1))))] s = some (.inl (.list (pcsAll 0 ls)), s) := by
  have ht := tot_join ls
  obtain ⟨a', b', e⟩ := pc_loop (x := .str (S (TL.joinL [10] (ls.map (·.1))))) s ls 0 none none [] hok (by show 0 + _ < _; omega)
  have sp := split_lines (ps := ls.map (·.1)) (fun z => hne (List.map_eq_nil_iff.mp z)) (fun p hp => by
    obtain ⟨l, hm, rfl⟩ := List.mem_map.mp hp
    exact (hok l hm).nl) hl
  unfold m_pieces mFnX
  rw [if_pos ⟨rfl, rfl⟩]
  have h2 : c_pieces (initE 4 [.str (S (TL.joinL [10] (ls.map (·.1))))]) s [] = some (.fl (.rt (.list (pcsAll 0 ls))), s, []) := by
    show mSeqX (mSetX 1 (mNewL mNil)) (mSeqX (mForX (iEn (mCons (m2 dSplit (mVar 0) (mC (.str ("\n" : Str)))) mNil)) gPc bPc) (mRetT (mVar 1))) [some (.str (S (TL.joinL [10] (ls.map (·.1))))), none, none, none] s [] = _
    have h1 : mSetX 1 (mNewL mNil) [some (.str (S (TL.joinL [10] (ls.map (·.1))))), none, none, none] s [] = some (.fl (.nx [some (.str (S (TL.joinL [10] (ls.map (·.1))))), some (opq 0), none, none]), s, [[]]) := rfl
    have h3 : iEn (mCons (m2 dSplit (mVar 0) (mC (.str ("\n" : Str)))) mNil) [some (.str (S (TL.joinL [10] (ls.map (·.1))))), some (opq 0), none, none] s = some (zipD (rngL 0 ls.length) (ls.map fun l => .str (S l.1)), s) := by
      simp only [iEn, mCons, mNil, m2, mVar, mC, List.getElem?_cons_zero, sp, List.length_map, List.map_map]
      rfl
    unfold mSeqX
    rw [h1]
    dsimp only
    unfold mForX
    rw [h3]
    dsimp only
    rw [e]
    rfl
  rw [h2]
  rfl
theorem pieces_bad {ls : List Li} {m : List Nat} {more : List (List Nat)} (hok : ∀ l ∈ ls, LiOk l) (hm : LPb m) (hn : ∀ p ∈ m :: more, 10 ∉ p) (hl : (TL.joinL [10] (ls.map (·.1) ++ m :: more)).length + 2 ≤ line) (ht : tot ls + m.length < line) (s : Tn) :
    m_pieces [.str (S (TL.joinL [10] (ls.map (·.1) ++ m :: more)))] s = some (.inr (ls.length : Int), s) := by
  obtain ⟨O', e⟩ := pc_bad (x := .str (S (TL.joinL [10] (ls.map (·.1) ++ m :: more)))) (more := more) s hm ls 0 none none [] _ rfl hok (by show 0 + _ + _ < _; omega)
  rw [Int.zero_add] at e
  have sp := split_lines (ps := ls.map (·.1) ++ m :: more) (by simp) (fun p hp => by
    rcases List.mem_append.mp hp with hp | hp
    · obtain ⟨l, hm, rfl⟩ := List.mem_map.mp hp
      exact (hok l hm).nl
    · exact hn p hp) hl
  unfold m_pieces mFnX
  rw [if_pos ⟨rfl, rfl⟩]
  have h2 : c_pieces (initE 4 [.str (S (TL.joinL [10] (ls.map (·.1) ++ m :: more)))]) s [] = some (.ex (ls.length : Int), s, O') := by
    show mSeqX (mSetX 1 (mNewL mNil)) (mSeqX (mForX (iEn (mCons (m2 dSplit (mVar 0) (mC (.str ("\n" : Str)))) mNil)) gPc bPc) (mRetT (mVar 1))) [some (.str (S (TL.joinL [10] (ls.map (·.1) ++ m :: more)))), none, none, none] s [] = _
    have h1 : mSetX 1 (mNewL mNil) [some (.str (S (TL.joinL [10] (ls.map (·.1) ++ m :: more)))), none, none, none] s [] = some (.fl (.nx [some (.str (S (TL.joinL [10] (ls.map (·.1) ++ m :: more)))), some (opq 0), none, none]), s, [[]]) := rfl
    have h3 : iEn (mCons (m2 dSplit (mVar 0) (mC (.str ("\n" : Str)))) mNil) [some (.str (S (TL.joinL [10] (ls.map (·.1) ++ m :: more)))), some (opq 0), none, none] s = some (zipD (rngL 0 (ls.map (·.1) ++ m :: more).length) ((ls.map (·.1) ++ m :: more).map fun l => .str (S l)), s) := by
      simp only [iEn, mCons, mNil, m2, mVar, mC, List.getElem?_cons_zero, sp, List.length_map]
    unfold mSeqX
    rw [h1]
    dsimp only
    unfold mForX
    rw [h3]
    dsimp only
    rw [e]
  rw [h2]
/-! rows -/
def prl (k : Int) (ws : List (List Nat)) : List (Str × Int) := ws.map fun w => (S w, k)
def prAll (k : Int) : List Li → List (Str × Int)
  | [] => []
  | l :: ls => prl k l.2 ++ prAll (k + 1) ls
theorem pcs_prl (k : Int) (ws : List (List Nat)) : pcs k ws = (prl k ws).map encPr := by
  unfold pcs prl
  rw [List.map_map]
  rfl
theorem pcsAll_pr : ∀ (ls : List Li) (k : Int), pcsAll k ls = (prAll k ls).map encPr
  | [], _ => rfl
  | l :: ls, k => by
    show pcs k l.2 ++ pcsAll (k + 1) ls = (prl k l.2 ++ prAll (k + 1) ls).map encPr
    rw [List.map_append, pcs_prl, pcsAll_pr ls]
theorem prAll_len : ∀ (ls : List Li) (k : Int), (∀ l ∈ ls, LiOk l) → (prAll k ls).length ≤ tot ls
  | [], _, _ => Nat.le_refl _
  | l :: ls, k, h => by
    have h1 := (h l List.mem_cons_self).lp.len
    have ih := prAll_len ls (k + 1) fun z hz => h z (List.mem_cons_of_mem _ hz)
    show (prl k l.2 ++ prAll (k + 1) ls).length ≤ l.1.length + tot ls
    have : (prl k l.2).length = l.2.length := by
      unfold prl
      rw [List.length_map]
    rw [List.length_append, this]
    omega
def rowsNum (k : Int) : List Li → List Rw
  | [] => []
  | l :: ls => (if l.2 = [] then [] else [(k, l.2.map S)]) ++ rowsNum (k + 1) ls
theorem fold_same (k : Int) : ∀ (ws : List (List Nat)) (done : List Rw) (r : List Str), (prl k ws).foldl rowStep (done, some (k, r)) = (done, some (k, r ++ ws.map S))
  | [], done, r => by
    show (done, some (k, r)) = (done, some (k, r ++ []))
    rw [List.append_nil]
  | w :: ws, done, r => by
    show (prl k ws).foldl rowStep (rowStep (done, some (k, r)) (S w, k)) = _
    have e : rowStep (done, some (k, r)) (S w, k) = (done, some (k, r ++ [S w])) := by
      unfold rowStep midRow
      dsimp only
      rw [if_pos rfl]
      rfl
    rw [e, fold_same k ws, List.append_assoc]
    rfl
theorem fold_line {k : Int} {st : RS} (h : ∀ r, st.2 = some r → r.1 < k) {ws : List (List Nat)} (hn : ws ≠ []) : (prl k ws).foldl rowStep st = (rowsAll st, some (k, ws.map S)) := by
  cases ws with
  | nil => exact absurd rfl hn
  | cons w ws =>
    show (prl k ws).foldl rowStep (rowStep st (S w, k)) = _
    have e : rowStep st (S w, k) = (rowsAll st, some (k, [S w])) := by
      obtain ⟨done, cur⟩ := st
      cases cur with
      | none =>
        show (done, some (k, [] ++ [S w])) = (done ++ [], some (k, [S w]))
        rw [List.append_nil, List.nil_append]
      | some r =>
        have h1 := h r rfl
        unfold rowStep midRow
        dsimp only
        rw [if_neg (by omega)]
        rfl
    rw [e, fold_same k ws]
    rfl
theorem fold_all : ∀ (ls : List Li) (k : Int) (st : RS), (∀ r, st.2 = some r → r.1 < k) → rowsAll ((prAll k ls).foldl rowStep st) = rowsAll st ++ rowsNum k ls
  | [], k, st, _ => by
    show rowsAll st = rowsAll st ++ []
    rw [List.append_nil]
  | l :: ls, k, st, h => by
    show rowsAll ((prl k l.2 ++ prAll (k + 1) ls).foldl rowStep st) = rowsAll st ++ ((if l.2 = [] then [] else [(k, l.2.map S)]) ++ rowsNum (k + 1) ls)
    rw [List.foldl_append]
    by_cases hw : l.2 = []
    · rw [hw, if_pos rfl, List.nil_append]
      exact fold_all ls (k + 1) st fun r hr => by
        have := h r hr
        omega
    · rw [fold_line h hw, if_neg hw, fold_all ls (k + 1) _ fun r hr => by
        cases hr
        show k < k + 1
        omega]
      rw [← List.append_assoc]
      rfl
theorem rowsOf_all (ls : List Li) : rowsOf (prAll 0 ls) = rowsNum 0 ls := by
  unfold rowsOf
  rw [fold_all ls 0 ([], none) fun r hr => by cases hr]
  rfl
theorem rows_is {ls : List Li} (hne : ls ≠ []) (hok : ∀ l ∈ ls, LiOk l) (hl : (TL.joinL [10] (ls.map (·.1))).length + 2 ≤ line) (s : Tn) : m_rows_of_pieces [.str (S (TL.joinL [10] (ls.map (·.1))))] s = some (.inl (.list ((rowsNum 0 ls).map encRw)), s) := by
  have ht := tot_join ls
  have hp := prAll_len ls 0 hok
  unfold m_rows_of_pieces
  dsimp only
  rw [pieces_is hne hok hl s]
  dsimp only
  rw [pcsAll_pr, prs_map]
  dsimp only
  rw [if_pos (by omega), rowsOf_all]
theorem rows_bad {ls : List Li} {m : List Nat} {more : List (List Nat)} (hok : ∀ l ∈ ls, LiOk l) (hm : LPb m) (hn : ∀ p ∈ m :: more, 10 ∉ p) (hl : (TL.joinL [10] (ls.map (·.1) ++ m :: more)).length + 2 ≤ line) (ht : tot ls + m.length < line) (s : Tn) :
    m_rows_of_pieces [.str (S (TL.joinL [10] (ls.map (·.1) ++ m :: more)))] s = some (.inr (ls.length : Int), s) := by
  unfold m_rows_of_pieces
  dsimp only
  rw [pieces_bad hok hm hn hl ht s]
end Md
-- My4
set_option Elab.async false
set_option linter.all false
set_option maxRecDepth 100000
set_option maxHeartbeats 4000000
/-! The source of draws; the faults' table. -/
namespace Md
open PySem PySem.Spec PyProof.Rows L2
set_option autoImplicit false
/-- n draws more are sound -/
def Okn (n : Nat) (s : Tn) : Prop := 0 ≤ s.2.2 ∧ s.2.2 + n ≤ 2 ^ 40
theorem Okn.le {n m : Nat} {s : Tn} (h : Okn n s) (l : m ≤ n) : Okn m s := ⟨h.1, by have := h.2; omega⟩
theorem take_ok {n : Nat} {s : Tn} {b : Int} (h0 : 0 < b) (h1 : b < 1073741824) (ok : Okn (n + 1) s) : ∃ v s', m_law_take [.dict [], .int b] s = some (.int v, s') ∧ 0 ≤ v ∧ v < b ∧ Okn n s' := by
  obtain ⟨a, b1, c⟩ := s
  obtain ⟨o1, o2⟩ := ok
  have o1 : 0 ≤ c := o1
  have o2 : c + (n + 1 : Nat) ≤ 2 ^ 40 := o2
  have c0 : (0 : Int) < 2147483647 := by decide
  have c1 : (0 : Int) < 40009 := by decide
  have c2 : (0 : Int) < 1000003 ∧ (1000003 : Int) < 1073741824 := by decide
  have c3 : (0 : Int) < 2147483629 := by decide
  have c4 : (0 : Int) < 2147483587 := by decide
  have c5 : (0 : Int) < 64 ∧ (64 : Int) < 1073741824 := by decide
  by_cases ha : 0 < a
  · refine ⟨a % b, (a / b, b1, c), ?_, Int.emod_nonneg _ (by omega), Int.emod_lt_of_pos _ h0, o1, by show c + (n : Int) ≤ _; omega⟩
    simp only [m_law_take, mFn, initE, c_law_take, mSeq, mIfS, mT, m2, mTin, mC, dGt, mAsg, mF, mCons, mNil, mVar, dInt, dMod, aName, mSetTin, dDiv, tinAt, tinSet, mRet, mNext, List.length_cons, List.length_nil, if_true, List.map_cons, List.map_nil, List.replicate, List.cons_append, List.nil_append, List.getElem?_cons_zero, List.getElem?_cons_succ, ha, decide_true, h0, h1, and_self, List.set_cons_succ, List.set_cons_zero]
  · have hb1 : big 48271 := by unfold big; decide
    have hb2 : big (39373 + (c + 1)) := by unfold big; omega
    have e1 := Int.emod_nonneg ((b1 + 48271 * (c + 1)) * (39373 + (c + 1)) % 2147483647) (show (40009 : Int) ≠ 0 by decide)
    have e2 := Int.emod_lt_of_pos ((b1 + 48271 * (c + 1)) * (39373 + (c + 1)) % 2147483647) c1
    have hb3 : big ((b1 + 48271 * (c + 1)) * (39373 + (c + 1)) % 2147483647 % 40009 + 7) := by unfold big; omega
    have key : ∃ v, m_law_take [.dict [], .int b] (a, b1, c) = some (.int (v % b), (a, b1, c + 1)) := by
      refine ⟨?_, ?_⟩
      rotate_left
      simp only [m_law_take, mFn, initE, c_law_take, mSeq, mIfS, mT, m2, mTin, mC, dGt, mAsg, mF, mCons, mNil, mVar, dInt, dMod, dAdd, dMul, aName, mSetTin, dDiv, tinAt, tinSet, mRet, mNext, List.length_cons, List.length_nil, if_true, List.map_cons, List.map_nil, List.replicate, List.cons_append, List.nil_append, List.getElem?_cons_zero, List.getElem?_cons_succ, ha, decide_false, h0, h1, and_self, List.set_cons_succ, List.set_cons_zero, hb1, hb2, hb3, c0, c1, c2, c3, c4, c5, true_or, or_true]
      rfl
    obtain ⟨v, key⟩ := key
    exact ⟨_, (a, b1, c + 1), key, Int.emod_nonneg _ (by omega), Int.emod_lt_of_pos _ h0, by show 0 ≤ c + 1; omega, by show c + 1 + (n : Int) ≤ _; omega⟩
abbrev rest_table : mS := (mSeq (mFor (iL (mCall m_law_faults mNil)) (aTup 2 (aCons (aName 2) (aCons (aName 3) aNil))) (mSeq (mAsg (mIf (mT (m2 dNe (mVar 2) (mC (.str ("" : Str))))) (m2 dAdd (mVar 1) (mVar 3)) (mC (.int 0))) (aName 4)) (mIfS (mBnot (mT (mCall (m_law_same 8) (mCons (mCall m_law_heard (mCons (m2 dAdd (m2 dRep (mC (.str ("\n" : Str))) (mVar 1)) (mVar 2)) mNil)) (mCons (mF dLst (mCons (mVar 4) (mCons (mC (.bool true)) mNil))) mNil))))) (mRet (mC (.bool false))) mNext))) (mRet (mC (.bool true))))
def isRt (o : Option (Fl × Tn)) : Bool := match o with
  | some (.rt (.bool true), _) => true
  | _ => false
theorem isRt_of {o : Option (Fl × Tn)} (h : isRt o = true) : ∃ s, o = some (.rt (.bool true), s) := by
  unfold isRt at h
  split at h
  · exact ⟨_, rfl⟩
  · cases h
theorem pu_rest : Pu rest_table := pu_seq (pu_for (pu_iL (pu_call pf_law_faults pu_nil)) (pu_seq (pu_asg (pu_if (pu_T (pu_m2 (pu_var _) (pu_c _))) (pu_m2 (pu_var _) (pu_var _)) (pu_c _))) (pu_ifS (pu_bnot (pu_T (pu_call (pf_law_same 8) (pu_cons (pu_call pf_law_heard (pu_cons (pu_m2 (pu_m2 (pu_c _) (pu_var _)) (pu_var _)) pu_nil)) (pu_cons (pu_F (pu_cons (pu_var _) (pu_cons (pu_c _) pu_nil))) pu_nil))))) (pu_ret (pu_c _)) pu_next))) (pu_ret (pu_c _))
theorem rest_0 : isRt (rest_table [some (.dict []), some (.int 0), none, none, none] (0, 0, 0)) = true := by decide +kernel
theorem rest_1 : isRt (rest_table [some (.dict []), some (.int 1), none, none, none] (0, 0, 0)) = true := by decide +kernel
theorem rest_2 : isRt (rest_table [some (.dict []), some (.int 2), none, none, none] (0, 0, 0)) = true := by decide +kernel
theorem rest_3 : isRt (rest_table [some (.dict []), some (.int 3), none, none, none] (0, 0, 0)) = true := by decide +kernel
theorem rest_ok {v : Int} (h0 : 0 ≤ v) (h1 : v < 4) (s : Tn) : rest_table [some (.dict []), some (.int v), none, none, none] s = some (.rt (.bool true), s) := by
  have key : ∃ s1, rest_table [some (.dict []), some (.int v), none, none, none] (0, 0, 0) = some (.rt (.bool true), s1) := by
    have : v = 0 ∨ v = 1 ∨ v = 2 ∨ v = 3 := by omega
    rcases this with rfl | rfl | rfl | rfl
    · exact isRt_of rest_0
    · exact isRt_of rest_1
    · exact isRt_of rest_2
    · exact isRt_of rest_3
  obtain ⟨s1, key⟩ := key
  obtain ⟨o, ho⟩ := pu_rest [some (.dict []), some (.int v), none, none, none]
  rw [ho] at key ⊢
  cases o with
  | none => cases key
  | some f =>
    cases key
    rfl
theorem table_ok {n : Nat} {s : Tn} (ok : Okn (n + 1) s) : ∃ s', m_law_table_right [.dict []] s = some (.bool true, s') ∧ Okn n s' := by
  obtain ⟨v, s', h1, h2, h3, h4⟩ := take_ok (b := 4) (by decide) (by decide) ok
  refine ⟨s', ?_, h4⟩
  have hr := rest_ok h2 h3 s'
  unfold m_law_table_right mFn
  rw [if_pos (show ([.dict []] : List Dt).length = 1 from rfl)]
  have e : c_law_table_right (initE 5 [.dict []]) s = rest_table [some (.dict []), some (.int v), none, none, none] s' := by
    show mSeq (mAsg (mCall m_law_take (mCons (mVar 0) (mCons (mC (.int 4)) mNil))) (aName 1)) rest_table [some (.dict []), none, none, none, none] s = _
    have e1 : mAsg (mCall m_law_take (mCons (mVar 0) (mCons (mC (.int 4)) mNil))) (aName 1) [some (.dict []), none, none, none, none] s = some (.nx [some (.dict []), some (.int v), none, none, none], s') := by
      simp only [mAsg, mCall, mCons, mNil, mVar, mC, List.getElem?_cons_zero, h1, aName, List.set_cons_succ, List.set_cons_zero]
    unfold mSeq
    rw [e1]
  rw [e, hr]
end Md
-- My8
set_option Elab.async false
set_option linter.all false
set_option maxRecDepth 100000
set_option maxHeartbeats 4000000
/-! wide_text: lines that hold the rows. -/
namespace Md
open PySem PySem.Spec PyProof.Rows L2
open _root_.SX (S)
set_option autoImplicit false
theorem of_ok {n : Nat} {s : Tn} {L : List Dt} (hn : L ≠ []) (hl : L.length < 1000) (ok : Okn (n + 1) s) : ∃ d s', m_law_of [.dict [], .list L] s = some (d, s') ∧ d ∈ L ∧ Okn n s' := by
  have h0 : 0 < L.length := List.length_pos_iff.mpr hn
  obtain ⟨v, s', h1, h2, h3, h4⟩ := take_ok (b := (L.length : Int)) (by omega) (by omega) ok
  have hv : v.toNat < L.length := by omega
  have hve : v = ((v.toNat : Nat) : Int) := by omega
  have hg : L[v.toNat]? = some L[v.toNat] := List.getElem?_eq_getElem hv
  have hat : L2.atI L v = some L[v.toNat] := by
    have := atI_at hg
    rw [← hve] at this
    exact this
  refine ⟨L[v.toNat], s', ?_, List.getElem_mem hv, h4⟩
  unfold m_law_of mFn
  rw [if_pos (show ([_, _] : List Dt).length = 2 from rfl)]
  have e : c_law_of (initE 2 [.dict [], .list L]) s = some (.rt L[v.toNat], s') := by
    show mRet (m2 dIx (mVar 1) (mCall m_law_take (mCons (mVar 0) (mCons (mF dLen (mCons (mVar 1) mNil)) mNil)))) [some (.dict []), some (.list L)] s = _
    simp only [mRet, m2, mVar, mCall, mCons, mNil, mF, dLen, List.getElem?_cons_zero, List.getElem?_cons_succ, h1, dIx, hat]
  rw [e]
def flat : List Li → List Nat
  | [] => []
  | l :: ls => l.1 ++ 10 :: flat ls
theorem flat_app : ∀ (a b : List Li), flat (a ++ b) = flat a ++ flat b
  | [], b => rfl
  | l :: a, b => by
    show l.1 ++ 10 :: flat (a ++ b) = (l.1 ++ 10 :: flat a) ++ flat b
    rw [flat_app a b, List.append_assoc] <;> rfl
theorem flat_join : ∀ (ls : List Li) (e : List Nat), TL.joinL [10] ((ls.map fun l => l.1) ++ [e]) = flat ls ++ e
  | [], e => rfl
  | [l], e => by
    show l.1 ++ ([10] ++ e) = (l.1 ++ 10 :: []) ++ e
    rw [List.append_assoc] <;> rfl
  | l :: l2 :: ls, e => by
    have ih := flat_join (l2 :: ls) e
    show l.1 ++ ([10] ++ TL.joinL [10] (((l2 :: ls).map fun l => l.1) ++ [e])) = (l.1 ++ 10 :: flat (l2 :: ls)) ++ e
    rw [ih, List.append_assoc] <;> rfl
/-- row words -/
abbrev Row := List (List Nat)
structure WordOk (w : List Nat) : Prop where
  ne : w ≠ []
  sg : w.all isSign = true
  len : w.length ≤ 6
structure RowOk (r : Row) : Prop where
  ne : r ≠ []
  len : r.length ≤ 16
  ws : ∀ w ∈ r, WordOk w
def encRow (r : Row) : Dt := .list (r.map fun w => .str (S w))
structure GapOk (g : List Nat) (gl : List Li) : Prop where
  eq : g = flat gl
  ok : ∀ l ∈ gl, LiOk l ∧ l.2 = []
  ct : Txt.count (S g) ("\n" : Str) = (gl.length : Int)
  len : g.length ≤ 12
structure EndOk (t : List Nat) : Prop where
  lp : LPs t []
  st : stops t = true
  nl : 10 ∉ t
  len : t.length ≤ 6
abbrev aGap : mA := (mCons (mC (.str ("" : Str))) (mCons (mC (.str ("" : Str))) (mCons (mC (.str ("" : Str))) (mCons (mC (.str ("\n" : Str))) (mCons (mC (.str (" # field A\n" : Str))) (mCons (mC (.str ("\n\n" : Str))) (mCons (mC (.str ("   \n" : Str))) mNil)))))))
abbrev LGap : List Dt := [.str ("" : Str), .str ("" : Str), .str ("" : Str), .str ("\n" : Str), .str (" # field A\n" : Str), .str ("\n\n" : Str), .str ("   \n" : Str)]
theorem eGap (env : Ev) (s : Tn) : mF dLst aGap env s = some (.list LGap, s) := rfl
abbrev aInd : mA := (mCons (mC (.str ("" : Str))) (mCons (mC (.str ("  " : Str))) mNil))
theorem eInd (env : Ev) (s : Tn) : mF dLst aInd env s = some (.list [.str ("" : Str), .str ("  " : Str)], s) := rfl
abbrev aSep : mA := (mCons (mC (.str (" " : Str))) (mCons (mC (.str ("   " : Str))) mNil))
theorem eSep (env : Ev) (s : Tn) : mF dLst aSep env s = some (.list [.str (" " : Str), .str ("   " : Str)], s) := rfl
abbrev aEnd : mA := (mCons (mC (.str ("\n" : Str))) (mCons (mC (.str (" \n" : Str))) (mCons (mC (.str (" # (x\n" : Str))) (mCons (mC (.str ("#edge\n" : Str))) mNil))))
theorem eEnd (env : Ev) (s : Tn) : mF dLst aEnd env s = some (.list [.str ("\n" : Str), .str (" \n" : Str), .str (" # (x\n" : Str), .str ("#edge\n" : Str)], s) := rfl
abbrev aTl : mA := (mCons (mC (.str ("" : Str))) (mCons (mC (.str ("\n" : Str))) (mCons (mC (.str ("# end" : Str))) mNil)))
theorem eTl (env : Ev) (s : Tn) : mF dLst aTl env s = some (.list [.str ("" : Str), .str ("\n" : Str), .str ("# end" : Str)], s) := rfl
theorem lit_sp2 : ("  " : Str) = S [32, 32] := by decide +kernel
theorem lit_sp3 : ("   " : Str) = S [32, 32, 32] := by decide +kernel
theorem lit_e1 : (" \n" : Str) = S ([32] ++ [10]) := by decide +kernel
theorem lit_e2 : (" # (x\n" : Str) = S ([32, 35, 32, 40, 120] ++ [10]) := by decide +kernel
theorem lit_e3 : ("#edge\n" : Str) = S ([35, 101, 100, 103, 101] ++ [10]) := by decide +kernel
theorem lit_g1 : (" # field A\n" : Str) = S [32, 35, 32, 102, 105, 101, 108, 100, 32, 65, 10] := by decide +kernel
theorem lit_g2 : ("\n\n" : Str) = S [10, 10] := by decide +kernel
theorem lit_g3 : ("   \n" : Str) = S [32, 32, 32, 10] := by decide +kernel
theorem lit_t1 : ("# end" : Str) = S [35, 32, 101, 110, 100] := by decide +kernel
theorem gap_mem {d : Dt} (h : d ∈ LGap) : ∃ g gl, d = .str (S g) ∧ GapOk g gl := by
  have g0 : ∃ g gl, (PyData.str ("" : Str)) = .str (S g) ∧ GapOk g gl := ⟨[], [], by rw [lit_nil], rfl, fun l hl => (by cases hl), by decide +kernel, by decide⟩
  have e0 : ∀ l ∈ ([([], [])] : List Li), LiOk l ∧ l.2 = [] := fun l hl => by
    cases List.mem_singleton.mp hl
    exact ⟨⟨.nil, by decide⟩, rfl⟩
  rcases List.mem_cons.mp h with rfl | h
  · exact g0
  rcases List.mem_cons.mp h with rfl | h
  · exact g0
  rcases List.mem_cons.mp h with rfl | h
  · exact g0
  rcases List.mem_cons.mp h with rfl | h
  · exact ⟨[10], [([], [])], by rw [lit_nl], rfl, e0, by decide +kernel, by decide⟩
  rcases List.mem_cons.mp h with rfl | h
  · exact ⟨_, [([32, 35, 32, 102, 105, 101, 108, 100, 32, 65], [])], by rw [lit_g1] <;> rfl, rfl, fun l hl => by
      cases List.mem_singleton.mp hl
      exact ⟨⟨.sp (.rem _), by decide⟩, rfl⟩, by decide +kernel, by decide⟩
  rcases List.mem_cons.mp h with rfl | h
  · exact ⟨_, [([], []), ([], [])], by rw [lit_g2] <;> rfl, rfl, fun l hl => by
      rcases List.mem_cons.mp hl with rfl | hl
      · exact ⟨⟨.nil, by decide⟩, rfl⟩
      · exact e0 l hl, by decide +kernel, by decide⟩
  · cases List.mem_singleton.mp h
    exact ⟨_, [([32, 32, 32], [])], by rw [lit_g3] <;> rfl, rfl, fun l hl => by
      cases List.mem_singleton.mp hl
      exact ⟨⟨.sp (.sp (.sp .nil)), by decide⟩, rfl⟩, by decide +kernel, by decide⟩
theorem ind_mem {d : Dt} (h : d ∈ [PyData.str ("" : Str), .str ("  " : Str)]) : ∃ i, d = .str (S i) ∧ (i = [] ∨ i = [32, 32]) := by
  rcases List.mem_cons.mp h with rfl | h
  · exact ⟨[], by rw [lit_nil], .inl rfl⟩
  · cases List.mem_singleton.mp h
    exact ⟨[32, 32], by rw [lit_sp2], .inr rfl⟩
theorem sep_mem {d : Dt} (h : d ∈ [PyData.str (" " : Str), .str ("   " : Str)]) : ∃ i, d = .str (S i) ∧ (i = [32] ∨ i = [32, 32, 32]) := by
  rcases List.mem_cons.mp h with rfl | h
  · exact ⟨[32], by rw [lit_sp], .inl rfl⟩
  · cases List.mem_singleton.mp h
    exact ⟨[32, 32, 32], by rw [lit_sp3], .inr rfl⟩
theorem end_mem {d : Dt} (h : d ∈ [PyData.str ("\n" : Str), .str (" \n" : Str), .str (" # (x\n" : Str), .str ("#edge\n" : Str)]) : ∃ t, d = .str (S (t ++ [10])) ∧ EndOk t := by
  rcases List.mem_cons.mp h with rfl | h
  · exact ⟨[], by rw [lit_nl] <;> rfl, .nil, rfl, by decide, by decide⟩
  rcases List.mem_cons.mp h with rfl | h
  · exact ⟨_, by rw [lit_e1] <;> rfl, .sp .nil, by decide +kernel, by decide, by decide⟩
  rcases List.mem_cons.mp h with rfl | h
  · exact ⟨_, by rw [lit_e2] <;> rfl, .sp (.rem _), by decide +kernel, by decide, by decide⟩
  · cases List.mem_singleton.mp h
    exact ⟨_, by rw [lit_e3] <;> rfl, .rem _, by decide +kernel, by decide, by decide⟩
/-- the text's end: the last lines -/
theorem tl_mem {d : Dt} (h : d ∈ [PyData.str ("" : Str), .str ("\n" : Str), .str ("# end" : Str)]) : ∃ (tl : List Li) (e : List Nat), d = .str (S (flat tl ++ e)) ∧ (∀ l ∈ tl, LiOk l ∧ l.2 = []) ∧ LiOk (e, []) ∧ (flat tl ++ e).length ≤ 6 ∧ Txt.count (S (flat tl ++ e)) ("\n" : Str) = (tl.length : Int) := by
  rcases List.mem_cons.mp h with rfl | h
  · exact ⟨[], [], by rw [lit_nil] <;> rfl, fun l hl => (by cases hl), ⟨.nil, by decide⟩, by decide, by decide +kernel⟩
  rcases List.mem_cons.mp h with rfl | h
  · exact ⟨[([], [])], [], by rw [lit_nl] <;> rfl, fun l hl => by
      cases List.mem_singleton.mp hl
      exact ⟨⟨.nil, by decide⟩, rfl⟩, ⟨.nil, by decide⟩, by decide, by decide +kernel⟩
  · cases List.mem_singleton.mp h
    exact ⟨[], _, by rw [lit_t1] <;> rfl, fun l hl => (by cases hl), ⟨.rem _, by decide⟩, by decide, by decide +kernel⟩
/-! a row in its line -/
theorem LPs_sep {sep r : List Nat} {ws : List (List Nat)} (hs : sep = [32] ∨ sep = [32, 32, 32]) (h : LPs r ws) : LPs (sep ++ r) ws := by
  rcases hs with rfl | rfl
  · exact .sp h
  · exact .sp (.sp (.sp h))
theorem LPs_row {sep t : List Nat} (hs : sep = [32] ∨ sep = [32, 32, 32]) (ht : EndOk t) : ∀ (r : Row), (∀ w ∈ r, WordOk w) → LPs (TL.joinL sep r ++ t) r
  | [], _ => ht.lp
  | [w], h => .word (h w List.mem_cons_self).ne (h w List.mem_cons_self).sg ht.st ht.lp
  | w :: w2 :: r, h => by
    have ih := LPs_row hs ht (w2 :: r) fun z hz => h z (List.mem_cons_of_mem _ hz)
    have e : TL.joinL sep (w :: w2 :: r) ++ t = w ++ (sep ++ (TL.joinL sep (w2 :: r) ++ t)) := by
      show (w ++ (sep ++ TL.joinL sep (w2 :: r))) ++ t = _
      rw [List.append_assoc, List.append_assoc]
    rw [e]
    refine .word (h w List.mem_cons_self).ne (h w List.mem_cons_self).sg ?_ (LPs_sep hs ih)
    rcases hs with rfl | rfl
    · show (!isSign 32) = true
      rw [sgn32]
      rfl
    · show (!isSign 32) = true
      rw [sgn32]
      rfl
theorem sgn10 : isSign 10 = false := by decide +kernel
theorem nl_word {w : List Nat} (h : w.all isSign = true) : 10 ∉ w := fun m => by
  have := List.all_eq_true.mp h 10 m
  rw [sgn10] at this
  cases this
theorem nl_row {sep : List Nat} (hs : sep = [32] ∨ sep = [32, 32, 32]) : ∀ (r : Row), (∀ w ∈ r, WordOk w) → 10 ∉ TL.joinL sep r
  | [], _ => by
    show 10 ∉ []
    simp
  | [w], h => nl_word (h w List.mem_cons_self).sg
  | w :: w2 :: r, h => by
    have ih := nl_row hs (w2 :: r) fun z hz => h z (List.mem_cons_of_mem _ hz)
    show 10 ∉ w ++ (sep ++ TL.joinL sep (w2 :: r))
    intro m
    rcases List.mem_append.mp m with m | m
    · exact nl_word (h w List.mem_cons_self).sg m
    · rcases List.mem_append.mp m with m | m
      · rcases hs with rfl | rfl
        · revert m
          decide
        · revert m
          decide
      · exact ih m
theorem len_rowJ {sep : List Nat} (hs : sep.length ≤ 3) : ∀ (r : Row), (∀ w ∈ r, WordOk w) → (TL.joinL sep r).length ≤ 9 * r.length
  | [], _ => Nat.le_refl _
  | [w], h => by
    have := (h w List.mem_cons_self).len
    show w.length ≤ 9 * 1
    omega
  | w :: w2 :: r, h => by
    have ih := len_rowJ hs (w2 :: r) fun z hz => h z (List.mem_cons_of_mem _ hz)
    have := (h w List.mem_cons_self).len
    show (w ++ (sep ++ TL.joinL sep (w2 :: r))).length ≤ 9 * ((w2 :: r).length + 1)
    rw [List.length_append, List.length_append]
    omega
theorem sum_row : ∀ (r : Row), (∀ w ∈ r, WordOk w) → ((r.map S).map (·.length)).sum ≤ 6 * r.length
  | [], _ => Nat.le_refl _
  | w :: r, h => by
    have ih := sum_row r fun z hz => h z (List.mem_cons_of_mem _ hz)
    have := (h w List.mem_cons_self).len
    have hz : (S w).length = w.length := _root_.SX.S_len w
    rw [List.map_cons, List.map_cons, List.sum_cons, List.length_cons, hz]
    omega
theorem strs_row : ∀ r : Row, strs? (r.map fun w => PyData.str (S w)) = some (r.map S)
  | [] => rfl
  | w :: r => by
    show (match strs? (r.map fun w => PyData.str (S w)) with
      | some l => some (S w :: l)
      | none => none) = _
    rw [strs_row r]
    rfl
theorem join_row {sep : List Nat} {r : Row} (hs : sep.length ≤ 3) (h : RowOk r) : dJoin (.str (S sep)) (encRow r) = some (.str (S (TL.joinL sep r))) := by
  have h1 := sum_row r h.ws
  have h2 := h.len
  have h3 : r.length * sep.length ≤ 16 * 3 := Nat.mul_le_mul h2 hs
  unfold encRow dJoin
  dsimp only
  rw [strs_row]
  dsimp only
  rw [if_pos (by rw [List.length_map, _root_.SX.S_len]; show _ ≤ 16777216; omega), _root_.SX.join_S]
theorem rowsNum_app : ∀ (a b : List Li) (k : Int), rowsNum k (a ++ b) = rowsNum k a ++ rowsNum (k + (a.length : Int)) b
  | [], b, k => by
    show rowsNum k b = rowsNum (k + 0) b
    rw [Int.add_zero]
  | l :: a, b, k => by
    show (if l.2 = [] then [] else [(k, l.2.map S)]) ++ rowsNum (k + 1) (a ++ b) = ((if l.2 = [] then [] else [(k, l.2.map S)]) ++ rowsNum (k + 1) a) ++ _
    have : k + 1 + (a.length : Int) = k + (((l :: a).length : Nat) : Int) := by
      rw [List.length_cons]
      omega
    rw [rowsNum_app a b (k + 1), this, List.append_assoc]
theorem rowsNum_nil : ∀ (a : List Li) (k : Int), (∀ l ∈ a, LiOk l ∧ l.2 = []) → rowsNum k a = []
  | [], _, _ => rfl
  | l :: a, k, h => by
    show (if l.2 = [] then [] else [(k, l.2.map S)]) ++ rowsNum (k + 1) a = []
    rw [if_pos (h l List.mem_cons_self).2, rowsNum_nil a (k + 1) fun z hz => h z (List.mem_cons_of_mem _ hz)]
    rfl
end Md
-- My9
set_option Elab.async false
set_option linter.all false
set_option maxRecDepth 100000
set_option maxHeartbeats 4000000
/-! wide_text: the loop. -/
namespace Md
open PySem PySem.Spec PyProof.Rows L2
open _root_.SX (S)
set_option autoImplicit false
abbrev w1 : mX := mUp (mAsg (mCall m_law_of (mCons (mVar 0) (mCons (mF dLst aGap) mNil))) (aName 6))
abbrev w2 : mX := mUp (mAsg (m2 dAdd (mVar 4) (m2 dCount (mVar 6) (mC (.str ("\n" : Str))))) (aName 4))
abbrev w3 : mX := mApp 3 (mVar 4)
abbrev w4 : mX := mUp (mAsg (m2 dAdd (m2 dAdd (m2 dAdd (mVar 2) (mVar 6)) (mCall m_law_of (mCons (mVar 0) (mCons (mF dLst aInd) mNil)))) (m2 dJoin (mCall m_law_of (mCons (mVar 0) (mCons (mF dLst aSep) mNil))) (mVar 5))) (aName 2))
abbrev w5 : mX := mUp (mPar 2 4 (mCons (m2 dAdd (mVar 2) (mCall m_law_of (mCons (mVar 0) (mCons (mF dLst aEnd) mNil)))) (mCons (m2 dAdd (mVar 4) (mC (.int 1))) mNil)))
abbrev bWt : mX := mSeqX w1 (mSeqX w2 (mSeqX w3 (mSeqX w4 w5)))
abbrev envW (x : Dt) (f : List Nat) (at_ : Int) (a b : Option Dt) : Ev := [some (.dict []), some x, some (.str (S f)), some (opq 0), some (.int at_), a, b]
theorem addS {f g : List Nat} (h : f.length + g.length ≤ line) : dAdd (.str (S f)) (.str (S g)) = some (.str (S (f ++ g))) := by
  unfold dAdd
  dsimp only
  rw [if_pos (by rw [_root_.SX.S_len, _root_.SX.S_len]; exact h), _root_.SX.S_cat]
theorem addI (i j : Int) : dAdd (.int i) (.int j) = some (.int (i + j)) := rfl
theorem w1_step {n : Nat} {s : Tn} {x : Dt} {f : List Nat} {at_ : Int} {a b : Option Dt} {O : Ow} (ok : Okn (n + 1) s) : ∃ g gl s', w1 (envW x f at_ a b) s O = some (.fl (.nx (envW x f at_ a (some (.str (S g))))), s', O) ∧ GapOk g gl ∧ Okn n s' := by
  obtain ⟨d, s', h1, h2, h3⟩ := of_ok (L := LGap) (by simp) (by decide) ok
  obtain ⟨g, gl, rfl, hg⟩ := gap_mem h2
  refine ⟨g, gl, s', ?_, hg, h3⟩
  have e := eGap (envW x f at_ a b) s
  show mUp _ _ _ _ = _
  simp only [mUp, mAsg, mCall, mCons, mNil, mVar, e, List.getElem?_cons_zero, h1, aName, List.set_cons_succ, List.set_cons_zero]
theorem w2_step {x : Dt} {f g : List Nat} {gl : List Li} {at_ : Int} {a : Option Dt} {O : Ow} (hg : GapOk g gl) (s : Tn) : w2 (envW x f at_ a (some (.str (S g)))) s O = some (.fl (.nx (envW x f (at_ + (gl.length : Int)) a (some (.str (S g))))), s, O) := by
  have hc := hg.ct
  show mUp _ _ _ _ = _
  simp only [mUp, mAsg, m2, mVar, mC, List.getElem?_cons_zero, List.getElem?_cons_succ, dCount, hc, dAdd, aName, List.set_cons_succ, List.set_cons_zero]
theorem w3_step {x : Dt} {f : List Nat} {at_ : Int} {a b : Option Dt} {ns : List Dt} (hl : ns.length < line) (s : Tn) : w3 (envW x f at_ a b) s [ns] = some (.fl (.nx (envW x f at_ a b)), s, [ns ++ [.int at_]]) := by
  have u : unq (opq 0) = some 0 := rfl
  show mApp _ _ _ _ _ = _
  simp only [mApp, mVar, List.getElem?_cons_zero, List.getElem?_cons_succ, u, isTin, and_true, List.set_cons_zero]
  rw [if_pos hl]
theorem w4_step {n : Nat} {s : Tn} {x : Dt} {f g : List Nat} {r : Row} {at_ : Int} {O : Ow} (ok : Okn (n + 2) s) (hr : RowOk r) (hf : f.length + 1000 ≤ line) (hg : g.length ≤ 12) : ∃ i sep s', w4 (envW x f at_ (some (encRow r)) (some (.str (S g)))) s O = some (.fl (.nx (envW x (((f ++ g) ++ i) ++ TL.joinL sep r) at_ (some (encRow r)) (some (.str (S g))))), s', O) ∧ (i = [] ∨ i = [32, 32]) ∧ (sep = [32] ∨ sep = [32, 32, 32]) ∧ Okn n s' := by
  obtain ⟨d, s1, h1, h2, h3⟩ := of_ok (L := [.str ("" : Str), .str ("  " : Str)]) (by simp) (by decide) ok
  obtain ⟨i, rfl, hi⟩ := ind_mem h2
  obtain ⟨d, s2, h4, h5, h6⟩ := of_ok (L := [.str (" " : Str), .str ("   " : Str)]) (by simp) (by decide) h3
  obtain ⟨sep, rfl, hs⟩ := sep_mem h5
  refine ⟨i, sep, s2, ?_, hi, hs, h6⟩
  have hi2 : i.length ≤ 2 := by
    rcases hi with rfl | rfl
    · decide
    · decide
  have hs2 : sep.length ≤ 3 := by
    rcases hs with rfl | rfl
    · decide
    · decide
  have e1 := eInd (envW x f at_ (some (encRow r)) (some (.str (S g)))) s
  have e2 := eSep (envW x f at_ (some (encRow r)) (some (.str (S g)))) s1
  have hj := join_row hs2 hr
  have hlr := len_rowJ hs2 r hr.ws
  have hrl := hr.len
  have f1 : f.length + g.length ≤ line := by omega
  have f2 : (f ++ g).length + i.length ≤ line := by
    rw [List.length_append]
    omega
  have f3 : ((f ++ g) ++ i).length + (TL.joinL sep r).length ≤ line := by
    rw [List.length_append, List.length_append]
    omega
  show mUp _ _ _ _ = _
  simp only [mUp, mAsg, m2, mVar, mCall, mCons, mNil, e1, e2, h1, h4, hj, List.getElem?_cons_zero, List.getElem?_cons_succ, addS f1, addS f2, addS f3, aName, List.set_cons_succ, List.set_cons_zero]
theorem w5_step {n : Nat} {s : Tn} {x : Dt} {f : List Nat} {at_ : Int} {a b : Option Dt} {O : Ow} (ok : Okn (n + 1) s) (hf : f.length + 100 ≤ line) : ∃ t s', w5 (envW x f at_ a b) s O = some (.fl (.nx (envW x (f ++ (t ++ [10])) (at_ + 1) a b)), s', O) ∧ EndOk t ∧ Okn n s' := by
  obtain ⟨d, s1, h1, h2, h3⟩ := of_ok (L := [.str ("\n" : Str), .str (" \n" : Str), .str (" # (x\n" : Str), .str ("#edge\n" : Str)]) (by simp) (by decide) ok
  obtain ⟨t, rfl, ht⟩ := end_mem h2
  refine ⟨t, s1, ?_, ht, h3⟩
  have e1 := eEnd (envW x f at_ a b) s
  have htl := ht.len
  have f1 : f.length + (t ++ [10]).length ≤ line := by
    rw [List.length_append, List.length_singleton]
    omega
  show mUp _ _ _ _ = _
  simp only [mUp, mPar, m2, mVar, mC, mCall, mCons, mNil, e1, h1, List.getElem?_cons_zero, List.getElem?_cons_succ, addS f1, addI, List.set_cons_succ, List.set_cons_zero]
def zipR : List Int → List Row → List Rw
  | k :: ks, r :: rs => (k, r.map S) :: zipR ks rs
  | _, _ => []
theorem wt_step {n : Nat} {s : Tn} {x : Dt} {ls : List Li} {r : Row} {b : Option Dt} {ns : List Dt} (ok : Okn (n + 4) s) (hr : RowOk r) (hf : (flat ls).length + 1000 ≤ line) (hn : ns.length < line) :
    ∃ gl ln b' s', bWt (envW x (flat ls) (ls.length : Int) (some (encRow r)) b) s [ns] = some (.fl (.nx (envW x (flat (ls ++ (gl ++ [(ln, r)]))) ((ls ++ (gl ++ [(ln, r)])).length : Int) (some (encRow r)) b')), s', [ns ++ [.int ((ls.length + gl.length : Nat) : Int)]])
      ∧ (∀ l ∈ gl, LiOk l ∧ l.2 = []) ∧ LiOk (ln, r) ∧ (flat (gl ++ [(ln, r)])).length ≤ 300 ∧ Okn n s' := by
  obtain ⟨g, gl, s1, a1, hg, k1⟩ := w1_step (x := x) (f := flat ls) (at_ := (ls.length : Int)) (a := some (encRow r)) (b := b) (O := [ns]) (n := n + 3) ok
  have a2 := w2_step (x := x) (f := flat ls) (at_ := (ls.length : Int)) (a := some (encRow r)) (O := [ns]) hg s1
  have a3 := w3_step (x := x) (f := flat ls) (at_ := (ls.length : Int) + (gl.length : Int)) (a := some (encRow r)) (b := some (.str (S g))) hn s1
  obtain ⟨i, sep, s2, a4, hi, hs, k2⟩ := w4_step (x := x) (f := flat ls) (g := g) (at_ := (ls.length : Int) + (gl.length : Int)) (O := [ns ++ [.int ((ls.length : Int) + (gl.length : Int))]]) (n := n + 1) k1 hr hf hg.len
  have hi2 : i.length ≤ 2 := by
    rcases hi with rfl | rfl
    · decide
    · decide
  have hs2 : sep.length ≤ 3 := by
    rcases hs with rfl | rfl
    · decide
    · decide
  have hlr := len_rowJ hs2 r hr.ws
  have hrl := hr.len
  have hgl := hg.len
  obtain ⟨t, s3, a5, ht, k3⟩ := w5_step (x := x) (f := ((flat ls ++ g) ++ i) ++ TL.joinL sep r) (at_ := (ls.length : Int) + (gl.length : Int)) (a := some (encRow r)) (b := some (.str (S g))) (O := [ns ++ [.int ((ls.length : Int) + (gl.length : Int))]]) (n := n) k2 (by
    rw [List.length_append, List.length_append, List.length_append]
    omega)
  have htl := ht.len
  have ef : flat (ls ++ (gl ++ [(i ++ (TL.joinL sep r ++ t), r)])) = (((flat ls ++ g) ++ i) ++ TL.joinL sep r) ++ (t ++ [10]) := by
    rw [flat_app, flat_app, hg.eq]
    show flat ls ++ (flat gl ++ ((i ++ (TL.joinL sep r ++ t)) ++ [10])) = _
    simp only [List.append_assoc]
  have en : ((ls ++ (gl ++ [(i ++ (TL.joinL sep r ++ t), r)])).length : Int) = (ls.length : Int) + (gl.length : Int) + 1 := by
    rw [List.length_append, List.length_append, List.length_singleton]
    omega
  refine ⟨gl, i ++ (TL.joinL sep r ++ t), some (.str (S g)), s3, ?_, hg.ok, ⟨?_, ?_⟩, ?_, k3⟩
  · rw [ef, en]
    show mSeqX w1 (mSeqX w2 (mSeqX w3 (mSeqX w4 w5))) _ _ _ = _
    unfold mSeqX
    rw [a1]
    dsimp only
    rw [a2]
    dsimp only
    rw [a3]
    dsimp only
    rw [a4]
    dsimp only
    rw [a5]
    rfl
  · have h := LPs_row hs ht r hr.ws
    rcases hi with rfl | rfl
    · exact h
    · exact .sp (.sp h)
  · intro m
    rcases List.mem_append.mp m with m | m
    · rcases hi with rfl | rfl
      · cases m
      · revert m
        decide
    · rcases List.mem_append.mp m with m | m
      · exact nl_row hs r hr.ws m
      · exact ht.nl m
  · rw [flat_app, ← hg.eq]
    show (g ++ ((i ++ (TL.joinL sep r ++ t)) ++ [10])).length ≤ 300
    rw [List.length_append, List.length_append, List.length_append, List.length_append, List.length_singleton]
    omega
theorem wt_loop {x : Dt} : ∀ (rs : List Row) (n : Nat) (s : Tn) (ls : List Li) (a b : Option Dt) (ns : List Int), Okn (n + 4 * rs.length) s → (∀ r ∈ rs, RowOk r) → (flat ls).length + 300 * rs.length + 1000 ≤ line → ns.length + rs.length < line →
    ∃ l2 n2 a' b' s', mForLX (aName 5) bWt (rs.map encRow) (envW x (flat ls) (ls.length : Int) a b) s [ns.map .int] = some (.fl (.nx (envW x (flat (ls ++ l2)) ((ls ++ l2).length : Int) a' b')), s', [(ns ++ n2).map .int])
      ∧ (∀ l ∈ l2, LiOk l) ∧ rowsNum (ls.length : Int) l2 = zipR n2 rs ∧ n2.length = rs.length ∧ (flat l2).length ≤ 300 * rs.length ∧ Okn n s'
  | [], n, s, ls, a, b, ns, ok, _, _, _ => ⟨[], [], a, b, s, by rw [List.append_nil, List.append_nil] <;> rfl, fun l hl => (by cases hl), rfl, rfl, Nat.le_refl _, ok⟩
  | r :: rs, n, s, ls, a, b, ns, ok, hr, hf, hn => by
    rw [List.length_cons] at ok hf hn
    have hrr := hr r List.mem_cons_self
    obtain ⟨gl, ln, b1, s1, e1, g1, g2, g3, k1⟩ := wt_step (n := n + 4 * rs.length) (x := x) (ls := ls) (r := r) (b := b) (ns := ns.map .int) (by
      have : n + 4 * rs.length + 4 = n + 4 * (rs.length + 1) := by omega
      rw [this]
      exact ok) hrr (by omega) (by rw [List.length_map]; omega)
    have fl1 : (flat (ls ++ (gl ++ [(ln, r)]))).length = (flat ls).length + (flat (gl ++ [(ln, r)])).length := by
      rw [flat_app ls, List.length_append]
    obtain ⟨l2, n2, a', b', s', e2, i1, i2, i3, i4, k2⟩ := wt_loop (x := x) rs n s1 (ls ++ (gl ++ [(ln, r)])) (some (encRow r)) b1 (ns ++ [((ls.length + gl.length : Nat) : Int)]) k1 (fun z hz => hr z (List.mem_cons_of_mem _ hz)) (by rw [fl1]; omega) (by rw [List.length_append, List.length_singleton]; omega)
    refine ⟨(gl ++ [(ln, r)]) ++ l2, ((ls.length + gl.length : Nat) : Int) :: n2, a', b', s', ?_, ?_, ?_, ?_, ?_, k2⟩
    · show (match bWt (envW x (flat ls) (ls.length : Int) (some (encRow r)) b) s [ns.map .int] with
        | some (.fl (.nx e), s2, O2) => mForLX (aName 5) bWt (rs.map encRow) e s2 O2
        | some (.fl (.ct e), s2, O2) => mForLX (aName 5) bWt (rs.map encRow) e s2 O2
        | some (.fl (.bk e), s2, O2) => some (.fl (.nx e), s2, O2)
        | some (.fl (.rt d), s2, O2) => some (.fl (.rt d), s2, O2)
        | some (.ex i, s2, O2) => some (.ex i, s2, O2)
        | none => none) = _
      rw [e1]
      dsimp only
      have em : ns.map PyData.int ++ [.int ((ls.length + gl.length : Nat) : Int)] = (ns ++ [((ls.length + gl.length : Nat) : Int)]).map .int := by
        rw [List.map_append]
        rfl
      rw [em, e2, List.append_assoc ls, List.append_assoc ns]
      rfl
    · intro l hl
      rcases List.mem_append.mp hl with hl | hl
      · rcases List.mem_append.mp hl with hl | hl
        · exact (g1 l hl).1
        · cases List.mem_singleton.mp hl
          exact g2
      · exact i1 l hl
    · rw [rowsNum_app, rowsNum_app, rowsNum_nil gl _ g1]
      have ek : ((ls.length : Int) + ((gl ++ [(ln, r)]).length : Int)) = ((ls ++ (gl ++ [(ln, r)])).length : Int) := by
        simp only [List.length_append]
        omega
      rw [ek, i2]
      show [] ++ ((if r = [] then [] else [((ls.length : Int) + (gl.length : Int), r.map S)]) ++ []) ++ zipR n2 rs = (((ls.length + gl.length : Nat) : Int), r.map S) :: zipR n2 rs
      rw [if_neg hrr.ne]
      have : ((ls.length + gl.length : Nat) : Int) = (ls.length : Int) + (gl.length : Int) := by omega
      rw [this]
      rfl
    · rw [List.length_cons, List.length_cons, i3]
    · rw [flat_app, List.length_append, List.length_cons]
      omega
end Md
-- My10
set_option Elab.async false
set_option linter.all false
set_option maxRecDepth 100000
set_option maxHeartbeats 4000000
/-! wide_text: what it gives. -/
namespace Md
open PySem PySem.Spec PyProof.Rows L2
open _root_.SX (S)
set_option autoImplicit false
theorem mF_of {f : List Dt → Option Dt} {a : mA} {env : Ev} {s s1 : Tn} {ds : List Dt} {z : Dt} (h : a env s = some (ds, s1)) (h2 : f ds = some z) : mF f a env s = some (z, s1) := by
  unfold mF
  rw [h]
  dsimp only
  rw [h2]
theorem mCons_of {a : mE} {r : mA} {env : Ev} {s s1 s2 : Tn} {d : Dt} {ds : List Dt} (h : a env s = some (d, s1)) (h2 : r env s1 = some (ds, s2)) : mCons a r env s = some (d :: ds, s2) := by
  unfold mCons
  rw [h]
  dsimp only
  rw [h2]
theorem m2_of {f : Dt → Dt → Option Dt} {a b : mE} {env : Ev} {s s1 s2 : Tn} {d e z : Dt} (h : a env s = some (d, s1)) (h2 : b env s1 = some (e, s2)) (h3 : f d e = some z) : m2 f a b env s = some (z, s2) := by
  unfold m2
  rw [h]
  dsimp only
  rw [h2]
  dsimp only
  rw [h3]
theorem m1_of {f : Dt → Option Dt} {a : mE} {env : Ev} {s s1 : Tn} {d z : Dt} (h : a env s = some (d, s1)) (h3 : f d = some z) : m1 f a env s = some (z, s1) := by
  unfold m1
  rw [h]
  dsimp only
  rw [h3]
theorem mCall_of {f : Mf} {a : mA} {env : Ev} {s s1 : Tn} {ds : List Dt} {z : Option (Dt × Tn)} (h : a env s = some (ds, s1)) (h2 : f ds s1 = z) : mCall f a env s = z := by
  unfold mCall
  rw [h]
  exact h2
theorem mNil_of {env : Ev} {s : Tn} : mNil env s = some ([], s) := rfl
structure Wide (rs : List Row) (text : List Nat) (nums : List Int) (ls : List Li) (e : List Nat) : Prop where
  eq : text = flat ls ++ e
  ok : ∀ l ∈ ls, LiOk l
  last : LiOk (e, [])
  rows : rowsNum 0 ls = zipR nums rs
  len : nums.length = rs.length
  short : text.length ≤ 300 * rs.length + 10
theorem wide_is {rs : List Row} {n : Nat} {s : Tn} (ok : Okn (n + 4 * rs.length + 1) s) (hr : ∀ r ∈ rs, RowOk r) (hl : rs.length ≤ 20) :
    ∃ text nums ls e s', m_law_wide_text [.dict [], .list (rs.map encRow)] s = some (.tuple [.str (S text), .list (nums.map .int)], s') ∧ Wide rs text nums ls e ∧ Okn n s' := by
  obtain ⟨l2, n2, a', b', s1, e1, i1, i2, i3, i4, k2⟩ := wt_loop (x := .list (rs.map encRow)) rs (n + 1) s [] none none [] (ok.le (by omega)) hr (by
    show 0 + _ + _ ≤ 16777216
    omega) (by
    show 0 + _ < 16777216
    omega)
  rw [List.nil_append, List.nil_append] at e1
  obtain ⟨d, s2, h1, h2, h3⟩ := of_ok (L := [.str ("" : Str), .str ("\n" : Str), .str ("# end" : Str)]) (by simp) (by decide) k2
  obtain ⟨tl, e, rfl, t1, t2, t3, t4⟩ := tl_mem h2
  have f1 : (flat l2).length + (flat tl ++ e).length ≤ line := by
    show _ ≤ 16777216
    omega
  refine ⟨flat l2 ++ (flat tl ++ e), n2, l2 ++ tl, e, s2, ?_, ⟨by rw [flat_app, List.append_assoc], fun l hl => ?_, t2, ?_, i3, ?_⟩, h3⟩
  · unfold m_law_wide_text mFnL mFnX
    rw [if_pos ⟨rfl, rfl⟩]
    have h4 : c_law_wide_text (initE 7 [.dict [], .list (rs.map encRow)]) s [] = some (.fl (.rt (.tuple [.str (S (flat l2 ++ (flat tl ++ e))), .list (n2.map .int)])), s2, []) := by
      show mSeqX (mPar3X 2 3 4 (mConsX (mUpE (mC (.str ("" : Str)))) (mConsX (mNewL mNil) (mConsX (mUpE (mC (.int 0))) mNilX)))) (mSeqX (mForX (iL (mVar 1)) (aName 5) bWt) (mRetT (mF dTup (mCons (m2 dAdd (mVar 2) (mCall m_law_of (mCons (mVar 0) (mCons (mF dLst aTl) mNil)))) (mCons (mVar 3) mNil))))) [some (.dict []), some (.list (rs.map encRow)), none, none, none, none, none] s [] = _
      have p1 : mPar3X 2 3 4 (mConsX (mUpE (mC (.str ("" : Str)))) (mConsX (mNewL mNil) (mConsX (mUpE (mC (.int 0))) mNilX))) [some (.dict []), some (.list (rs.map encRow)), none, none, none, none, none] s [] = some (.fl (.nx (envW (.list (rs.map encRow)) [] 0 none none)), s, [[]]) := by
        rw [lit_nil]
        rfl
      have p2 : mRetT (mF dTup (mCons (m2 dAdd (mVar 2) (mCall m_law_of (mCons (mVar 0) (mCons (mF dLst aTl) mNil)))) (mCons (mVar 3) mNil))) (envW (.list (rs.map encRow)) (flat l2) (l2.length : Int) a' b') s1 [n2.map .int] = some (.fl (.rt (.tuple [.str (S (flat l2 ++ (flat tl ++ e))), .list (n2.map .int)])), s2, []) := by
        have q1 : thaw [n2.map .int] (envW (.list (rs.map encRow)) (flat l2) (l2.length : Int) a' b') = [some (.dict []), some (.list (rs.map encRow)), some (.str (S (flat l2))), some (.list (n2.map .int)), some (.int (l2.length : Int)), a'.map (thawD [n2.map .int]), b'.map (thawD [n2.map .int])] := rfl
        have q2 := eTl [some (.dict []), some (.list (rs.map encRow)), some (.str (S (flat l2))), some (.list (n2.map .int)), some (.int (l2.length : Int)), a'.map (thawD [n2.map .int]), b'.map (thawD [n2.map .int])] s1
        have q3 : dTup [.str (S (flat l2 ++ (flat tl ++ e))), .list (n2.map .int)] = some (.tuple [.str (S (flat l2 ++ (flat tl ++ e))), .list (n2.map .int)]) := rfl
        unfold mRetT
        rw [q1, mF_of (mCons_of (m2_of (show mVar 2 _ _ = some _ from rfl) (mCall_of (mCons_of (show mVar 0 _ _ = some _ from rfl) (mCons_of q2 mNil_of)) h1) (addS f1)) (mCons_of (show mVar 3 _ _ = some _ from rfl) mNil_of)) q3]
        rfl
      unfold mSeqX
      rw [p1]
      dsimp only
      have p3 : mForX (iL (mVar 1)) (aName 5) bWt (envW (.list (rs.map encRow)) [] 0 none none) s [[]] = some (.fl (.nx (envW (.list (rs.map encRow)) (flat l2) (l2.length : Int) a' b')), s1, [n2.map .int]) := e1
      rw [p3]
      dsimp only
      exact p2
    rw [h4]
    rfl
  · rcases List.mem_append.mp hl with hl | hl
    · exact i1 l hl
    · exact (t1 l hl).1
  · rw [rowsNum_app, rowsNum_nil tl _ t1, List.append_nil]
    exact i2
  · rw [List.length_append]
    omega
section
variable {rs : List Row} {text : List Nat} {nums : List Int} {ls : List Li} {e : List Nat}
theorem zipR_len : ∀ (ns : List Int) (rs : List Row), ns.length = rs.length → (zipR ns rs).length = rs.length
  | [], [], _ => rfl
  | _ :: ns, _ :: rs, h => by
    show (zipR ns rs).length + 1 = rs.length + 1
    rw [zipR_len ns rs (by simpa using h)]
theorem Wide.read (W : Wide rs text nums ls e) (hl : rs.length ≤ 20) (s : Tn) : m_rows_of_pieces [.str (S text)] s = some (.inl (.list ((zipR nums rs).map Md.encRw)), s) := by
  have h1 : text = TL.joinL [10] ((ls ++ [(e, [])]).map fun (l : Li) => l.1) := by
    rw [List.map_append, W.eq]
    exact (flat_join ls e).symm
  have h2 := W.short
  rw [h1, rows_is (by simp) (fun l hm => by
    rcases List.mem_append.mp hm with hm | hm
    · exact W.ok l hm
    · cases List.mem_singleton.mp hm
      exact W.last) (by
    rw [h1] at h2
    show _ ≤ 16777216
    omega) s, rowsNum_app, W.rows]
  show some ((Sum.inl (.list ((zipR nums rs ++ ([] ++ [])).map Md.encRw)) : Dt ⊕ Int), s) = _
  rw [List.append_nil, List.append_nil]
theorem tot_app : ∀ a b : List Li, tot (a ++ b) = tot a + tot b
  | [], b => by
    show tot b = 0 + tot b
    omega
  | l :: a, b => by
    show l.1.length + tot (a ++ b) = l.1.length + tot a + tot b
    rw [tot_app a b]
    omega
theorem tot_flat : ∀ a : List Li, tot a ≤ (flat a).length
  | [] => Nat.le_refl _
  | l :: a => by
    have := tot_flat a
    show l.1.length + tot a ≤ (l.1 ++ 10 :: flat a).length
    rw [List.length_append, List.length_cons]
    omega
theorem Wide.bad (W : Wide rs text nums ls e) (hl : rs.length ≤ 20) (s : Tn) : m_rows_of_pieces [.str (S (text ++ [10, 10, 116, 117, 114, 110, 32, 61]))] s = some (.inr ((ls.length : Int) + 2), s) := by
  have h1 : text ++ [10, 10, 116, 117, 114, 110, 32, 61] = TL.joinL [10] (((ls ++ [(e, []), ([], [])]).map fun (l : Li) => l.1) ++ [116, 117, 114, 110, 32, 61] :: []) := by
    rw [flat_join, flat_app, W.eq]
    show (flat ls ++ e) ++ _ = (flat ls ++ (e ++ 10 :: ([] ++ 10 :: []))) ++ _
    simp only [List.append_assoc, List.cons_append, List.nil_append]
  have h2 := W.short
  have h3 : tot (ls ++ [(e, []), ([], [])]) ≤ text.length := by
    have a := tot_flat ls
    rw [tot_app, W.eq, List.length_append]
    show tot ls + (e.length + (0 + 0)) ≤ _
    omega
  have hb : LPb [116, 117, 114, 110, 32, 61] := LPb.word (w := [116, 117, 114, 110]) (r := [32, 61]) (by simp) (by decide +kernel) (by decide +kernel) (.sp (.here [] (by decide +kernel) (by decide) (by decide)))
  have h4 : (text ++ [10, 10, 116, 117, 114, 110, 32, 61]).length = text.length + 8 := List.length_append
  have h5 := h4
  rw [h1] at h5
  rw [h1, rows_bad (fun l hm => by
    rcases List.mem_append.mp hm with hm | hm
    · exact W.ok l hm
    · rcases List.mem_cons.mp hm with rfl | hm
      · exact W.last
      · cases List.mem_singleton.mp hm
        exact ⟨.nil, by decide⟩) hb (fun p hp => by
    cases List.mem_singleton.mp hp
    decide) (by
    show _ ≤ 16777216
    omega) (by
    show _ + 6 < 16777216
    omega) s]
  have : ((ls ++ [(e, []), ([], [])]).length : Int) = (ls.length : Int) + 2 := by
    rw [List.length_append]
    show ((ls.length + 2 : Nat) : Int) = _
    omega
  rw [this]
end
end Md
-- My11
set_option Elab.async false
set_option linter.all false
set_option maxRecDepth 100000
set_option maxHeartbeats 4000000
/-! numbers told; pairs_told. -/
namespace Md
open PySem PySem.Spec PyProof.Rows L2
open _root_.SX (S)
set_option autoImplicit false
theorem cnt_app (c : Nat) : ∀ a b : List Nat, PyProof.Rows.cnt c (a ++ b) = PyProof.Rows.cnt c a + PyProof.Rows.cnt c b
  | [], b => by
    rw [List.nil_append, PyProof.Rows.cnt_nil]
    omega
  | x :: a, b => by
    rw [List.cons_append, PyProof.Rows.cnt_cons, PyProof.Rows.cnt_cons, cnt_app c a b]
    omega
theorem cnt_free {c : Nat} : ∀ {a : List Nat}, c ∉ a → PyProof.Rows.cnt c a = 0
  | [], _ => rfl
  | x :: a, h => by
    rw [PyProof.Rows.cnt_cons, cnt_free fun m => h (List.mem_cons_of_mem _ m), if_neg fun e => h (by rw [e]; exact List.mem_cons_self)]
    rfl
theorem cnt_flat : ∀ ls : List Li, (∀ l ∈ ls, LiOk l) → PyProof.Rows.cnt 10 (flat ls) = (ls.length : Int)
  | [], _ => rfl
  | l :: ls, h => by
    show PyProof.Rows.cnt 10 (l.1 ++ 10 :: flat ls) = _
    rw [cnt_app, PyProof.Rows.cnt_cons, cnt_flat ls fun z hz => h z (List.mem_cons_of_mem _ hz), cnt_free (h l List.mem_cons_self).nl, List.length_cons, if_pos rfl]
    omega
theorem Wide.count {rs : List Row} {text : List Nat} {nums : List Int} {ls : List Li} {e : List Nat} (W : Wide rs text nums ls e) : Txt.count (S text) ("\n" : Str) = (ls.length : Int) := by
  rw [lit_nl]
  show Txt.count (S text) ⟨#[10]⟩ = _
  rw [PyProof.Rows.count_cnt]
  show PyProof.Rows.cnt 10 text = _
  rw [W.eq, cnt_app, cnt_flat ls W.ok, cnt_free (a := e) W.last.nl]
  omega
/-- the sign of a number -/
def numW (i : Int) : List Nat := (toString i : Str).cps.toList
def isD (o : Option (Dt × Tn)) (d : Int) : Bool := match o with
  | some (.int x, _) => x == d
  | _ => false
theorem isD_of {o : Option (Dt × Tn)} {d : Int} (h : isD o d = true) : ∃ s, o = some (.int d, s) := by
  unfold isD at h
  split at h
  · rename_i x s
    exact ⟨s, by rw [eq_of_beq h]⟩
  · cases h
def chkNum (i : Int) : Bool := !(numW i).isEmpty && (numW i).all isSign && decide ((numW i).length ≤ 6) && isD (m_number_of [.str (S (numW i))] (0, 0, 0)) i
theorem chk_all : ((List.range 81).all fun k => chkNum ((k : Int) - 40)) = true := by decide +kernel
def Small (i : Int) : Prop := -40 ≤ i ∧ i ≤ 40
theorem chk_small {i : Int} (h : Small i) : chkNum i = true := by
  have h1 := List.all_eq_true.mp chk_all (i + 40).toNat (List.mem_range.mpr (by have := h.1; have := h.2; omega))
  have e : (((i + 40).toNat : Nat) : Int) - 40 = i := by
    have := h.1
    omega
  rw [e] at h1
  exact h1
theorem num_word {i : Int} (h : Small i) : WordOk (numW i) := by
  have c := chk_small h
  unfold chkNum at c
  simp only [Bool.and_eq_true] at c
  refine ⟨fun e => ?_, c.1.1.2, of_decide_eq_true c.1.2⟩
  have := c.1.1.1
  rw [e] at this
  cases this
theorem num_is {i : Int} (h : Small i) (s : Tn) : m_number_of [.str (S (numW i))] s = some (.int i, s) := by
  have c := chk_small h
  unfold chkNum at c
  rw [Bool.and_eq_true] at c
  obtain ⟨s1, e⟩ := isD_of c.2
  exact pf_number_of.at e s
theorem str_num {i : Int} (h : Small i) : dStr [.int i] = some (.str (S (numW i))) := by
  unfold dStr
  dsimp only
  rw [if_pos (by have := h.1; have := h.2; omega)]
  unfold numW
  rw [_root_.SX.S_tl]
/-! a list made of a list -/
theorem lcL_map {g : Dt → Ev → Option Ev} {vs : List Nat} {t : mE} {env : Ev} {s : Tn} (f : Dt → Dt) : ∀ ds : List Dt, (∀ d ∈ ds, ∃ e, g d (wipeE env vs) = some e ∧ t e s = some (f d, s)) → mLcL g vs t ds env s = some (ds.map f, s)
  | [], _ => rfl
  | d :: ds, h => by
    obtain ⟨e, h1, h2⟩ := h d List.mem_cons_self
    have ih := lcL_map f ds fun z hz => h z (List.mem_cons_of_mem _ hz)
    simp only [mLcL, h1, h2, ih, List.map_cons]
theorem lc_of {i : mA} {g : Dt → Ev → Option Ev} {vs : List Nat} {t : mE} {env : Ev} {s s1 s2 : Tn} {ds zs : List Dt} (h : i env s = some (ds, s1)) (h2 : mLcL g vs t ds env s1 = some (zs, s2)) (h3 : zs.any isTin = false) (h4 : zs.length ≤ 16777216) : mLc i g vs t env s = some (.list zs, s2) := by
  unfold mLc
  rw [h]
  dsimp only
  rw [h2]
  dsimp only
  rw [if_neg]
  intro c
  rcases c with c | c
  · rw [h3] at c
    cases c
  · exact c h4
theorem cut_tail {α : Type} (x : α) (r : List α) : cutD (x :: r) (some 1) none = r := by
  have e : HT.sIx (x :: r).length 0 (some 1) = 1 := by
    rw [show (1 : Int) = ((1 : Nat) : Int) from rfl, HT.sIx_nat, List.length_cons]
    omega
  unfold cutD
  rw [e, HT.sIx_none, List.length_cons]
  show ((x :: r).drop 1).take (r.length + 1 - 1) = r
  rw [Nat.add_sub_cancel]
  show r.take r.length = r
  rw [List.take_length]
def val (w : List Nat) : Dt := match m_number_of [.str (S w)] (0, 0, 0) with
  | some (d, _) => d
  | none => .none
structure NumOk (w : List Nat) : Prop where
  run : ∀ s, m_number_of [.str (S w)] s = some (val w, s)
  tin : isTin (val w) = false
  flat : flatD (val w) = true
theorem val_num {i : Int} (h : Small i) : val (numW i) = .int i := by
  unfold val
  rw [num_is h]
theorem numok_num {i : Int} (h : Small i) : NumOk (numW i) := ⟨fun s => by rw [val_num h]; exact num_is h s, by rw [val_num h]; rfl, by rw [val_num h]; rfl⟩
abbrev numbersE : mE := mLc (iL (mSl (mVar 0) (oSome (mC (.int 1))) oNone)) (aName 3) [3] (mCall m_number_of (mCons (mVar 3) mNil))
theorem numbers_is {w0 : List Nat} {ws : Row} {nm : Dt} (h : ∀ w ∈ ws, NumOk w) (hl : ws.length ≤ 100) (s : Tn) : numbersE [some (encRow (w0 :: ws)), some nm, none, none, none] s = some (.list (ws.map val), s) := by
  have h1 : iL (mSl (mVar 0) (oSome (mC (.int 1))) oNone) [some (encRow (w0 :: ws)), some nm, none, none, none] s = some (ws.map fun w => .str (S w), s) := by
    show (match (match dSl (.list ((w0 :: ws).map fun w => PyData.str (S w))) (some 1) none with
      | none => none
      | some z => some (z, s)) with
      | some (PyData.list ds, s1) => some (ds, s1)
      | _ => none) = _
    unfold dSl
    dsimp only
    rw [List.map_cons, cut_tail]
  refine lc_of h1 (lcL_map (fun d => match d with
    | .str x => val x.cps.toList
    | _ => .none) _ fun d hd => ?_) ?_ ?_ |>.trans ?_
  · obtain ⟨w, hw, rfl⟩ := List.mem_map.mp hd
    exact ⟨[some (encRow (w0 :: ws)), some nm, none, some (.str (S w)), none], rfl, (h w hw).run s⟩
  · rw [List.map_map]
    refine List.any_eq_false.mpr fun d hd => ?_
    obtain ⟨w, hw, rfl⟩ := List.mem_map.mp hd
    show ¬ isTin (val w) = true
    rw [(h w hw).tin]
    exact Bool.false_ne_true
  · rw [List.length_map, List.length_map]
    omega
  · rw [List.map_map]
    rfl
end Md
-- My12
set_option Elab.async false
set_option linter.all false
set_option maxRecDepth 100000
set_option maxHeartbeats 4000000
/-! pairs_told. -/
namespace Md
open PySem PySem.Spec PyProof.Rows L2
open _root_.SX (S)
set_option autoImplicit false
def numsP (ps : List Pr) : List Int := ps.flatMap two
theorem numsP_len : ∀ ps : List Pr, (numsP ps).length = 2 * ps.length
  | [] => rfl
  | p :: ps => by
    have := numsP_len ps
    show (numsP ps).length + 1 + 1 = 2 * (ps.length + 1)
    omega
theorem numsP_app : ∀ a b : List Pr, numsP (a ++ b) = numsP a ++ numsP b
  | [], _ => rfl
  | p :: a, b => by
    show p.1 :: p.2 :: numsP (a ++ b) = p.1 :: p.2 :: (numsP a ++ numsP b)
    rw [numsP_app a b]
abbrev envP (r nm : Dt) (vals : List Dt) (k : Option Dt) : Ev := [some r, some nm, some (.list vals), none, k]
abbrev bodyP : mE := mF dTup (mCons (m2 dIx (mVar 2) (mVar 4)) (mCons (m2 dIx (mVar 2) (m2 dAdd (mVar 4) (mC (.int 1)))) mNil))
theorem two_loop {r nm : Dt} {k : Option Dt} (s : Tn) : ∀ (rest done : List Pr), mLcL (aName 4) [4] bodyP (twoL ((2 * done.length : Nat) : Int) rest.length) (envP r nm ((numsP (done ++ rest)).map .int) k) s = some (rest.map enc, s)
  | [], _ => rfl
  | p :: rest, done => by
    have ih := two_loop (r := r) (nm := nm) (k := k) s rest (done ++ [p])
    have e1 : (done ++ [p]) ++ rest = done ++ p :: rest := by simp
    have e2 : ((2 * (done ++ [p]).length : Nat) : Int) = ((2 * done.length : Nat) : Int) + 2 := by
      rw [List.length_append, List.length_singleton]
      omega
    rw [e1, e2] at ih
    have en : numsP (done ++ p :: rest) = numsP done ++ (p.1 :: p.2 :: numsP rest) := by
      rw [numsP_app]
      rfl
    have hl : (numsP done).length = 2 * done.length := numsP_len done
    have g1 : (List.map PyData.int (numsP (done ++ p :: rest)))[2 * done.length]? = some (.int p.1) := by
      rw [en, List.getElem?_map, List.getElem?_append_right (by omega), hl, Nat.sub_self]
      rfl
    have g2 : (List.map PyData.int (numsP (done ++ p :: rest)))[2 * done.length + 1]? = some (.int p.2) := by
      rw [en, List.getElem?_map, List.getElem?_append_right (by omega), hl, Nat.add_sub_cancel_left]
      rfl
    have a1 := atI_at g1
    have a2 := atI_at g2
    have ec : ((2 * done.length + 1 : Nat) : Int) = ((2 * done.length : Nat) : Int) + 1 := by omega
    rw [ec] at a2
    have b : bodyP (envP r nm ((numsP (done ++ p :: rest)).map .int) (some (.int ((2 * done.length : Nat) : Int)))) s = some (enc p, s) := by
      have b1 : dIx (.list ((numsP (done ++ p :: rest)).map .int)) (.int ((2 * done.length : Nat) : Int)) = some (.int p.1) := a1
      have b2 : dIx (.list ((numsP (done ++ p :: rest)).map .int)) (.int (((2 * done.length : Nat) : Int) + 1)) = some (.int p.2) := a2
      exact mF_of (mCons_of (m2_of (show mVar 2 _ _ = some _ from rfl) (show mVar 4 _ _ = some _ from rfl) b1) (mCons_of (m2_of (show mVar 2 _ _ = some _ from rfl) (m2_of (show mVar 4 _ _ = some _ from rfl) (show mC _ _ _ = some _ from rfl) (addI _ _)) b2) mNil_of)) rfl
    show (match bodyP (envP r nm ((numsP (done ++ p :: rest)).map .int) (some (.int ((2 * done.length : Nat) : Int)))) s with
      | none => none
      | some (z, s1) => match mLcL (aName 4) [4] bodyP (twoL (((2 * done.length : Nat) : Int) + 2) rest.length) (envP r nm ((numsP (done ++ p :: rest)).map .int) k) s1 with
        | none => none
        | some (zs, s2) => some (z :: zs, s2)) = _
    rw [b]
    dsimp only
    rw [ih]
    rfl
abbrev condPT : mB := mBor (mT (m2 dNe (m2 dIx (mVar 0) (mC (.int 0))) (mVar 1))) (mBor (mT (m2 dGt (m2 dMod (mF dLen (mCons (mVar 2) mNil)) (mC (.int 2))) (mC (.int 0)))) (mT (m2 dIn (mC .none) (mVar 2))))
abbrev retPT : mS := mRet (mF dTuple (mCons (mLc (iRng3 (mCons (mC (.int 0)) (mCons (mF dLen (mCons (mVar 2) mNil)) (mCons (mC (.int 2)) mNil)))) (aName 4) [4] bodyP) mNil))
theorem pairs_shape {w0 : List Nat} {ws : Row} {nm : Dt} {d : Dt} (h : ∀ w ∈ ws, NumOk w) (hl : ws.length ≤ 100) (s : Tn) (hb : mSeq (mIfS condPT (mRet (mC .none)) mNext) retPT (envP (encRow (w0 :: ws)) nm (ws.map val) none) s = some (.rt d, s)) : m_pairs_told [encRow (w0 :: ws), nm] s = some (d, s) := by
  unfold m_pairs_told mFn
  rw [if_pos (show ([_, _] : List Dt).length = 2 from rfl)]
  have e : c_pairs_told (initE 5 [encRow (w0 :: ws), nm]) s = some (.rt d, s) := by
    show mSeq (mAsg numbersE (aName 2)) (mSeq (mIfS condPT (mRet (mC .none)) mNext) retPT) [some (encRow (w0 :: ws)), some nm, none, none, none] s = _
    have e1 : mAsg numbersE (aName 2) [some (encRow (w0 :: ws)), some nm, none, none, none] s = some (.nx (envP (encRow (w0 :: ws)) nm (ws.map val) none), s) := by
      unfold mAsg
      rw [numbers_is h hl s]
      rfl
    rw [show ∀ t u env s, mSeq t u env s = (match t env s with
      | some (.nx e, s1) => u e s1
      | r => r) from fun _ _ _ _ => rfl, e1]
    exact hb
  rw [e]
theorem mBor_f {a b : mB} {env : Ev} {s s1 : Tn} (h : a env s = some (false, s1)) : mBor a b env s = b env s1 := by
  unfold mBor
  rw [h]
theorem mBor_t {a b : mB} {env : Ev} {s s1 : Tn} (h : a env s = some (true, s1)) : mBor a b env s = some (true, s1) := by
  unfold mBor
  rw [h]
theorem mBand_f {a b : mB} {env : Ev} {s s1 : Tn} (h : a env s = some (false, s1)) : mBand a b env s = some (false, s1) := by
  unfold mBand
  rw [h]
theorem mBand_t {a b : mB} {env : Ev} {s s1 : Tn} (h : a env s = some (true, s1)) : mBand a b env s = b env s1 := by
  unfold mBand
  rw [h]
theorem mIfS_t {c : mB} {t u : mS} {env : Ev} {s s1 : Tn} (h : c env s = some (true, s1)) : mIfS c t u env s = t env s1 := by
  unfold mIfS
  rw [h]
theorem mIfS_f {c : mB} {t u : mS} {env : Ev} {s s1 : Tn} (h : c env s = some (false, s1)) : mIfS c t u env s = u env s1 := by
  unfold mIfS
  rw [h]
theorem mSeq_nx {t u : mS} {env e : Ev} {s s1 : Tn} (h : t env s = some (.nx e, s1)) : mSeq t u env s = u e s1 := by
  unfold mSeq
  rw [h]
theorem mSeq_rt {t u : mS} {env : Ev} {d : Dt} {s s1 : Tn} (h : t env s = some (.rt d, s1)) : mSeq t u env s = some (.rt d, s1) := by
  unfold mSeq
  rw [h]
theorem mT_of {a : mE} {env : Ev} {b : Bool} {s s1 : Tn} (h : a env s = some (.bool b, s1)) : mT a env s = some (b, s1) := by
  unfold mT
  rw [h]
theorem mRet_of {a : mE} {env : Ev} {d : Dt} {s s1 : Tn} (h : a env s = some (d, s1)) : mRet a env s = some (.rt d, s1) := by
  unfold mRet
  rw [h]
theorem mAsg_of {a : mE} {g : Dt → Ev → Option Ev} {env e : Ev} {d : Dt} {s s1 : Tn} (h : a env s = some (d, s1)) (h2 : g d env = some e) : mAsg a g env s = some (.nx e, s1) := by
  unfold mAsg
  rw [h]
  dsimp only
  rw [h2]
theorem ix0 {w0 : List Nat} {ws : Row} {nm : Dt} {vals : List Dt} {k : Option Dt} (s : Tn) : m2 dIx (mVar 0) (mC (.int 0)) (envP (encRow (w0 :: ws)) nm vals k) s = some (.str (S w0), s) :=
  m2_of (show mVar 0 _ _ = some _ from rfl) (show mC _ _ _ = some _ from rfl) (show L2.atI _ ((0 : Nat) : Int) = _ from atI_at rfl)
theorem pt_A {w0 nm : List Nat} {ws : Row} {vals : List Dt} {k : Option Dt} (s : Tn) : mT (m2 dNe (m2 dIx (mVar 0) (mC (.int 0))) (mVar 1)) (envP (encRow (w0 :: ws)) (.str (S nm)) vals k) s = some (!decide (S w0 = S nm), s) := by
  unfold mT
  rw [m2_of (ix0 s) (show mVar 1 _ _ = some _ from rfl) (show dNe (.str (S w0)) (.str (S nm)) = some (.bool (!decide (S w0 = S nm))) from rfl)]
theorem pt_B {r nm : Dt} {vals : List Dt} {k : Option Dt} (s : Tn) : mT (m2 dGt (m2 dMod (mF dLen (mCons (mVar 2) mNil)) (mC (.int 2))) (mC (.int 0))) (envP r nm vals k) s = some (decide (0 < (vals.length : Int) % 2), s) := rfl
theorem pairs_none {w0 nm : List Nat} {ws : Row} (h : ∀ w ∈ ws, NumOk w) (hl : ws.length ≤ 100) (c : w0 ≠ nm ∨ ws.length % 2 = 1) (s : Tn) : m_pairs_told [encRow (w0 :: ws), .str (S nm)] s = some (.none, s) := by
  refine pairs_shape h hl s (mSeq_rt ((mIfS_t ?_).trans (mRet_of (show mC _ _ _ = some _ from rfl))))
  by_cases e : S w0 = S nm
  · have e2 := _root_.SX.S_inj e
    rcases c with c | c
    · exact absurd e2 c
    · refine (mBor_f ((pt_A s).trans ?_)).trans (mBor_t ((pt_B s).trans ?_))
      · rw [decide_eq_true e]
        rfl
      · rw [decide_eq_true (show 0 < (((ws.map val).length : Nat) : Int) % 2 by rw [List.length_map]; omega)]
  · refine mBor_t ((pt_A s).trans ?_)
    rw [decide_eq_false e]
    rfl
theorem no_tin_enc : ∀ ps : List Pr, (ps.map enc).any isTin = false
  | [] => rfl
  | p :: ps => no_tin_enc ps
theorem int_in : ∀ ns : List Int, (ns.map PyData.int).all flatD = true ∧ ((ns.map PyData.int).any fun y => PyData.eqv y .none) = false
  | [] => ⟨rfl, rfl⟩
  | n :: ns => int_in ns
theorem rng_is {r nm : Dt} {k : Option Dt} {ps : List Pr} (hl : ps.length ≤ 40) (s : Tn) : iRng3 (mCons (mC (.int 0)) (mCons (mF dLen (mCons (mVar 2) mNil)) (mCons (mC (.int 2)) mNil))) (envP r nm ((numsP ps).map .int) k) s = some (twoL 0 ps.length, s) := by
  have hlen := numsP_len ps
  have q : mCons (mC (.int 0)) (mCons (mF dLen (mCons (mVar 2) mNil)) (mCons (mC (.int 2)) mNil)) (envP r nm ((numsP ps).map .int) k) s = some ([.int 0, .int (((numsP ps).map PyData.int).length : Int), .int 2], s) := rfl
  unfold iRng3
  rw [q]
  dsimp only
  rw [List.length_map, hlen, if_pos ⟨rfl, rfl, by omega, by omega⟩]
  have : (((2 * ps.length : Nat) : Int).toNat + 1) / 2 = ps.length := by omega
  rw [this]
theorem pairs_some {nm : List Nat} {ps : List Pr} (hs : ∀ p ∈ ps, Small p.1 ∧ Small p.2) (hl : ps.length ≤ 40) (s : Tn) : m_pairs_told [encRow (nm :: (numsP ps).map numW), .str (S nm)] s = some (.tuple (ps.map enc), s) := by
  have hn : ∀ i ∈ numsP ps, Small i := fun i hi => by
    obtain ⟨p, hp, hi⟩ := List.mem_flatMap.mp hi
    rcases List.mem_cons.mp hi with rfl | hi
    · exact (hs p hp).1
    · cases List.mem_singleton.mp hi
      exact (hs p hp).2
  have hlen := numsP_len ps
  have hv : ((numsP ps).map numW).map val = (numsP ps).map .int := by
    rw [List.map_map]
    exact List.map_congr_left fun i hi => val_num (hn i hi)
  refine pairs_shape (fun w hw => by
    obtain ⟨i, hi, rfl⟩ := List.mem_map.mp hw
    exact numok_num (hn i hi)) (by rw [List.length_map]; omega) s ?_
  rw [hv]
  have hd : dIn .none (.list ((numsP ps).map .int)) = some (.bool false) := by
    unfold dIn
    dsimp only
    rw [if_pos ⟨rfl, (int_in _).1⟩, (int_in _).2]
  have hr := rng_is (r := encRow (nm :: (numsP ps).map numW)) (nm := .str (S nm)) (k := none) hl s
  have hz := two_loop (r := encRow (nm :: (numsP ps).map numW)) (nm := .str (S nm)) (k := none) s ps []
  refine (mSeq_nx ((mIfS_f ((mBor_f ((pt_A s).trans ?_)).trans ((mBor_f ((pt_B s).trans ?_)).trans (mT_of (m2_of (show mC _ _ _ = some _ from rfl) (show mVar 2 _ _ = some _ from rfl) hd))))).trans rfl)).trans (mRet_of (mF_of (mCons_of (lc_of hr hz (no_tin_enc ps) (by rw [List.length_map]; omega)) mNil_of) rfl))
  · rw [decide_eq_true rfl]
    rfl
  · rw [decide_eq_false (show ¬ 0 < ((((numsP ps).map PyData.int).length : Nat) : Int) % 2 by rw [List.length_map, hlen]; omega)]
end Md
-- My13
set_option Elab.async false
set_option linter.all false
set_option maxRecDepth 100000
set_option maxHeartbeats 4000000
/-! edge_told, turn_told upon rows. -/
namespace Md
open PySem PySem.Spec PyProof.Rows L2
open _root_.SX (S)
set_option autoImplicit false
abbrev fieldN : List Nat := [102, 105, 101, 108, 100]
abbrev edgeN : List Nat := [101, 100, 103, 101]
abbrev turnN : List Nat := [116, 117, 114, 110]
theorem lit_field : ("field" : Str) = S fieldN := by decide +kernel
theorem lit_edge : ("edge" : Str) = S edgeN := by decide +kernel
theorem lit_turn : ("turn" : Str) = S turnN := by decide +kernel
theorem mBnot_of {a : mB} {env : Ev} {b : Bool} {s s1 : Tn} (h : a env s = some (b, s1)) : mBnot a env s = some (!b, s1) := by
  unfold mBnot
  rw [h]
theorem mIf_t {c : mB} {a b : mE} {env : Ev} {s s1 : Tn} (h : c env s = some (true, s1)) : mIf c a b env s = a env s1 := by
  unfold mIf
  rw [h]
theorem mIf_f {c : mB} {a b : mE} {env : Ev} {s s1 : Tn} (h : c env s = some (false, s1)) : mIf c a b env s = b env s1 := by
  unfold mIf
  rw [h]
theorem mFn_of {n k : Nat} {b : mS} {ds : List Dt} {s s1 : Tn} {d : Dt} (hk : ds.length = k) (h : b (initE n ds) s = some (.rt d, s1)) : mFn n k b ds s = some (d, s1) := by
  unfold mFn
  rw [if_pos hk, h]
def edgeRow (e : Ed) : Row := edgeN :: (numsP [e.1, e.2]).map numW
def halfRow (h : Pr) : Row := turnN :: (numsP [h]).map numW
def fieldRow (ps : List Pr) : Row := fieldN :: (numsP ps).map numW
structure GoodE (e : Ed) : Prop where
  small : ∀ p ∈ [e.1, e.2], Small p.1 ∧ Small p.2
  ok : ∃ s, m_is_edge [enc2 e] (0, 0, 0) = some (.bool true, s)
structure GoodH (h : Pr) : Prop where
  small : ∀ p ∈ [h], Small p.1 ∧ Small p.2
  ok : ∃ s, m_is_plan_told [.tuple [enc h]] (0, 0, 0) = some (.bool true, s)
theorem lt_dt (e f : Ed) : dLt (enc2 e) (enc2 f) = some (.bool (ltE e f)) := by
  show (if PySem.W.alikeAll [enc e.1, enc e.2] [enc f.1, enc f.2] = true ∧ PyData.depthAll [enc e.1, enc e.2] ≤ 20 then some (PyData.bool (PySem.W.dataLt (enc2 e) (enc2 f))) else none) = _
  rw [if_pos ⟨rfl, Nat.le_of_ble_eq_true rfl⟩, lt_enc2]
theorem edge_none {r : Row} {v : Dt} {s : Tn} (h : m_pairs_told [encRow r, .str (S edgeN)] s = some (.none, s)) : m_edge_told [encRow r, v] s = some (.none, s) := by
  rw [← lit_edge] at h
  refine mFn_of rfl ?_
  refine (mSeq_nx (mAsg_of (mCall_of (mCons_of (show mVar 0 _ _ = some _ from rfl) (mCons_of (show mC _ _ _ = some _ from rfl) mNil_of)) h) rfl)).trans ?_
  exact mSeq_rt ((mIfS_t (mBor_t (mT_of (m2_of (show mVar 2 _ _ = some _ from rfl) (show mC _ _ _ = some _ from rfl) rfl)))).trans (mRet_of (show mC _ _ _ = some _ from rfl)))
theorem edge_some {e : Ed} {r : Row} {E : List Dt} {b : Bool} {s : Tn} (h : m_pairs_told [encRow r, .str (S edgeN)] s = some (enc2 e, s)) (g : ∃ s, m_is_edge [enc2 e] (0, 0, 0) = some (.bool true, s))
    (hb : (E = [] ∧ b = true) ∨ ∃ es l, E = es ++ [enc2 l] ∧ b = ltE l e) : m_edge_told [encRow r, .list E] s = some (if b then enc2 e else .none, s) := by
  obtain ⟨s0, g⟩ := g
  have g := pf_is_edge.at g s
  rw [← lit_edge] at h
  refine mFn_of rfl ?_
  refine (mSeq_nx (mAsg_of (mCall_of (mCons_of (show mVar 0 _ _ = some _ from rfl) (mCons_of (show mC _ _ _ = some _ from rfl) mNil_of)) h) rfl)).trans ?_
  refine (mSeq_nx ((mIfS_f ((mBor_f (mT_of (m2_of (show mVar 2 _ _ = some _ from rfl) (show mC _ _ _ = some _ from rfl) rfl))).trans (mBnot_of (mT_of (mCall_of (mCons_of (show mVar 2 _ _ = some _ from rfl) mNil_of) g))))).trans rfl)).trans (mRet_of ?_)
  rcases hb with ⟨rfl, rfl⟩ | ⟨es, l, rfl, rfl⟩
  · exact (mIf_t (mBor_t (mT_of (m2_of (show mVar 1 _ _ = some _ from rfl) (show mF dLst mNil _ _ = some _ from rfl) rfl)))).trans rfl
  · have c1 : mT (m2 dEq (mVar 1) (mF dLst mNil)) [some (encRow r), some (.list (es ++ [enc2 l])), some (enc2 e)] s = some (false, s) := mT_of (m2_of (show mVar 1 _ _ = some _ from rfl) (show mF dLst mNil _ _ = some (.list [], s) from rfl) (by
      show some (PyData.bool (es ++ [enc2 l]).isEmpty) = _
      cases es <;> rfl))
    have c2 : m2 dIx (mVar 1) (m1 dNeg (mC (.int 1))) [some (encRow r), some (.list (es ++ [enc2 l])), some (enc2 e)] s = some (enc2 l, s) := m2_of (show mVar 1 _ _ = some _ from rfl) (show m1 dNeg (mC (.int 1)) _ _ = some (.int (-1), s) from rfl) (L2.atI_last es (enc2 l))
    have c3 : mT (m2 dLt (m2 dIx (mVar 1) (m1 dNeg (mC (.int 1)))) (mVar 2)) [some (encRow r), some (.list (es ++ [enc2 l])), some (enc2 e)] s = some (ltE l e, s) := mT_of (m2_of c2 (show mVar 2 _ _ = some _ from rfl) (lt_dt l e))
    have c4 := (mBor_f (b := mT (m2 dLt (m2 dIx (mVar 1) (m1 dNeg (mC (.int 1)))) (mVar 2))) c1).trans c3
    cases hl : ltE l e with
    | true =>
      rw [hl] at c4
      exact (mIf_t c4).trans rfl
    | false =>
      rw [hl] at c4
      exact (mIf_f c4).trans rfl
theorem turn_none {r : Row} {s : Tn} (h : m_pairs_told [encRow r, .str (S turnN)] s = some (.none, s)) : m_turn_told [encRow r] s = some (.none, s) := by
  rw [← lit_turn] at h
  refine mFn_of rfl ?_
  refine (mSeq_nx (mAsg_of (mCall_of (mCons_of (show mVar 0 _ _ = some _ from rfl) (mCons_of (show mC _ _ _ = some _ from rfl) mNil_of)) h) rfl)).trans (mRet_of ?_)
  exact (mIf_f (mBand_f (mT_of (m2_of (show mVar 1 _ _ = some _ from rfl) (show mC _ _ _ = some _ from rfl) rfl)))).trans rfl
theorem turn_some {h : Pr} {r : Row} {s : Tn} (hp : m_pairs_told [encRow r, .str (S turnN)] s = some (.tuple [enc h], s)) (g : ∃ s, m_is_plan_told [.tuple [enc h]] (0, 0, 0) = some (.bool true, s)) : m_turn_told [encRow r] s = some (enc h, s) := by
  obtain ⟨s0, g⟩ := g
  have g := pf_is_plan_told.at g s
  rw [← lit_turn] at hp
  refine mFn_of rfl ?_
  refine (mSeq_nx (mAsg_of (mCall_of (mCons_of (show mVar 0 _ _ = some _ from rfl) (mCons_of (show mC _ _ _ = some _ from rfl) mNil_of)) hp) rfl)).trans (mRet_of ?_)
  exact (mIf_t ((mBand_t (mT_of (m2_of (show mVar 1 _ _ = some _ from rfl) (show mC _ _ _ = some _ from rfl) rfl))).trans ((mBand_t (mT_of (m2_of (show mF dLen (mCons (mVar 1) mNil) _ _ = some (.int 1, s) from rfl) (show mC _ _ _ = some _ from rfl) rfl))).trans (mT_of (mCall_of (mCons_of (show mVar 1 _ _ = some _ from rfl) mNil_of) g))))).trans rfl
/-! good rows -/
theorem small_nums {ps : List Pr} (hs : ∀ p ∈ ps, Small p.1 ∧ Small p.2) : ∀ i ∈ numsP ps, Small i := fun i hi => by
  obtain ⟨p, hp, hi⟩ := List.mem_flatMap.mp hi
  rcases List.mem_cons.mp hi with rfl | hi
  · exact (hs p hp).1
  · cases List.mem_singleton.mp hi
    exact (hs p hp).2
theorem numok_nums {ps : List Pr} (hs : ∀ p ∈ ps, Small p.1 ∧ Small p.2) : ∀ w ∈ (numsP ps).map numW, NumOk w := fun w hw => by
  obtain ⟨i, hi, rfl⟩ := List.mem_map.mp hw
  exact numok_num (small_nums hs i hi)
theorem wordok_nums {ps : List Pr} (hs : ∀ p ∈ ps, Small p.1 ∧ Small p.2) : ∀ w ∈ (numsP ps).map numW, WordOk w := fun w hw => by
  obtain ⟨i, hi, rfl⟩ := List.mem_map.mp hw
  exact num_word (small_nums hs i hi)
theorem edge_good {e : Ed} (h : GoodE e) {E : List Dt} {b : Bool} (hb : (E = [] ∧ b = true) ∨ ∃ es l, E = es ++ [enc2 l] ∧ b = ltE l e) (s : Tn) : m_edge_told [encRow (edgeRow e), .list E] s = some (if b then enc2 e else .none, s) :=
  edge_some (pairs_some h.small (Nat.le_of_ble_eq_true rfl) s) h.ok hb
theorem turn_good {h : Pr} (g : GoodH h) (s : Tn) : m_turn_told [encRow (halfRow h)] s = some (enc h, s) := turn_some (pairs_some g.small (Nat.le_of_ble_eq_true rfl) s) g.ok
/-- a row that tells nothing: an odd count of words behind its first -/
structure BadRow (r : Row) : Prop where
  ex : ∃ w0 ws, r = w0 :: ws ∧ (∀ w ∈ ws, NumOk w) ∧ ws.length ≤ 100 ∧ ws.length % 2 = 1
theorem BadRow.pairs {r : Row} (b : BadRow r) (nm : List Nat) (s : Tn) : m_pairs_told [encRow r, .str (S nm)] s = some (.none, s) := by
  obtain ⟨w0, ws, rfl, h1, h2, h3⟩ := b.ex
  exact pairs_none h1 h2 (.inr h3) s
end Md
-- My14
set_option Elab.async false
set_option linter.all false
set_option maxRecDepth 100000
set_option maxHeartbeats 4000000
/-! read_sheet: one row of the loop. -/
namespace Md
open PySem PySem.Spec PyProof.Rows L2
open _root_.SX (S)
set_option autoImplicit false
theorem mSeqX_nx {t u : mX} {env e : Ev} {s s1 : Tn} {O O1 : Ow} (h : t env s O = some (.fl (.nx e), s1, O1)) : mSeqX t u env s O = u e s1 O1 := by
  unfold mSeqX
  rw [h]
theorem mSeqX_ex {t u : mX} {env : Ev} {i : Int} {s s1 : Tn} {O O1 : Ow} (h : t env s O = some (.ex i, s1, O1)) : mSeqX t u env s O = some (.ex i, s1, O1) := by
  unfold mSeqX
  rw [h]
theorem mIfX_t {c : mXB} {t u : mX} {env : Ev} {s s1 : Tn} {O : Ow} (h : c env s O = some (true, s1)) : mIfX c t u env s O = t env s1 O := by
  unfold mIfX
  rw [h]
theorem mIfX_f {c : mXB} {t u : mX} {env : Ev} {s s1 : Tn} {O : Ow} (h : c env s O = some (false, s1)) : mIfX c t u env s O = u env s1 O := by
  unfold mIfX
  rw [h]
theorem fz_of {c : mB} {env e : Ev} {s s1 : Tn} {O : Ow} {b : Bool} (h1 : thaw O env = e) (h : c e s = some (b, s1)) : fz c env s O = some (b, s1) := by
  unfold fz
  rw [h1]
  exact h
abbrev envR (tx : Str) (rw fs : List Dt) (a b c : Option Dt) : Ev := [some (.str tx), some (.list rw), some (.tuple fs), some (opq 0), some (opq 1), a, b, c]
abbrev envT (tx : Str) (rw fs E Pl : List Dt) (a b c : Option Dt) : Ev := [some (.str tx), some (.list rw), some (.tuple fs), some (.list E), some (.list Pl), a, b, c]
def rowD (k : Int) (r : Row) : Dt := .tuple [.int k, encRow r]
theorem thawR {tx : Str} {rw fs E Pl : List Dt} {k : Int} {r : Row} {c : Option Dt} : thaw [E, Pl] (envR tx rw fs (some (.int k)) (some (encRow r)) c) = envT tx rw fs E Pl (some (.int k)) (some (encRow r)) (c.map (thawD [E, Pl])) := rfl
abbrev gR : Dt → Ev → Option Ev := aTup 2 (aCons (aName 5) (aCons (aName 6) aNil))
abbrev cR : mB := mBand (mT (m2 dEq (m2 dIx (mVar 6) (mC (.int 0))) (mC (.str ("edge" : Str))))) (mT (m2 dEq (mVar 4) (mF dLst mNil)))
abbrev eR : mX := mSeqX (mSetX 7 (mThaw (mCall m_edge_told (mCons (mVar 6) (mCons (mVar 3) mNil))))) (mApp 3 (mVar 7))
abbrev tR : mX := mSeqX (mUp (mAsg (mCall m_turn_told (mCons (mVar 6) mNil)) (aName 7))) (mApp 4 (mVar 7))
abbrev nR : mX := mIfX (fz (mT (m2 dIsN (mVar 7) (mC .none)))) (mRaise (mVar 5)) mNextX
abbrev bR : mX := mSeqX (mIfX (fz cR) eR tR) nR
theorem cR_is {tx : Str} {rw fs E Pl : List Dt} {k : Int} {w0 : List Nat} {ws : Row} {c : Option Dt} (s : Tn) : cR (envT tx rw fs E Pl (some (.int k)) (some (encRow (w0 :: ws))) c) s = some (decide (S w0 = S edgeN) && Pl.isEmpty, s) := by
  have h1 : mT (m2 dEq (m2 dIx (mVar 6) (mC (.int 0))) (mC (.str ("edge" : Str)))) (envT tx rw fs E Pl (some (.int k)) (some (encRow (w0 :: ws))) c) s = some (decide (S w0 = S edgeN), s) := by
    rw [lit_edge]
    exact mT_of (m2_of (m2_of (show mVar 6 _ _ = some _ from rfl) (show mC _ _ _ = some _ from rfl) (show L2.atI _ ((0 : Nat) : Int) = _ from atI_at rfl)) (show mC _ _ _ = some _ from rfl) (show dEq (.str (S w0)) (.str (S edgeN)) = some (.bool (decide (S w0 = S edgeN))) from rfl))
  have h2 : mT (m2 dEq (mVar 4) (mF dLst mNil)) (envT tx rw fs E Pl (some (.int k)) (some (encRow (w0 :: ws))) c) s = some (Pl.isEmpty, s) := by
    refine mT_of (m2_of (show mVar 4 _ _ = some (.list Pl, s) from rfl) (show mF dLst mNil _ _ = some (.list [], s) from rfl) ?_)
    cases Pl <;> rfl
  cases h : decide (S w0 = S edgeN) with
  | true =>
    rw [h] at h1
    exact (mBand_t h1).trans h2
  | false =>
    rw [h] at h1
    exact mBand_f h1
theorem nR_is {tx : Str} {rw fs E Pl : List Dt} {k : Int} {r : Row} {d : Dt} (hu : unq d = none) (ht : isTin d = false) (s : Tn) : nR (envR tx rw fs (some (.int k)) (some (encRow r)) (some d)) s [E, Pl] = if isNon d then some (.ex k, s, [E, Pl]) else some (.fl (.nx (envR tx rw fs (some (.int k)) (some (encRow r)) (some d))), s, [E, Pl]) := by
  have e : thawD [E, Pl] d = d := by
    unfold thawD
    rw [hu]
  have hc : fz (mT (m2 dIsN (mVar 7) (mC .none))) (envR tx rw fs (some (.int k)) (some (encRow r)) (some d)) s [E, Pl] = some (isNon d, s) := by
    refine fz_of thawR (mT_of (m2_of (show mVar 7 _ _ = some (thawD [E, Pl] d, s) from rfl) (show mC _ _ _ = some _ from rfl) ?_))
    rw [e]
    unfold dIsN
    dsimp only
    rw [ht, if_neg Bool.false_ne_true]
  cases hn : isNon d with
  | true =>
    rw [hn] at hc
    exact (mIfX_t hc).trans rfl
  | false =>
    rw [hn] at hc
    exact (mIfX_f hc).trans rfl
theorem row_edgeR {tx : Str} {rw fs E : List Dt} {k : Int} {ws : Row} {c : Option Dt} {d : Dt} {s : Tn} (h : m_edge_told [encRow (edgeN :: ws), .list E] s = some (d, s)) (hf : flatT d = true) (hu : unq d = none) (ht : isTin d = false) (hl : E.length < line) :
    bR (envR tx rw fs (some (.int k)) (some (encRow (edgeN :: ws))) c) s [E, []] = if isNon d then some (.ex k, s, [E ++ [d], []]) else some (.fl (.nx (envR tx rw fs (some (.int k)) (some (encRow (edgeN :: ws))) (some d))), s, [E ++ [d], []]) := by
  have hc : fz cR (envR tx rw fs (some (.int k)) (some (encRow (edgeN :: ws))) c) s [E, []] = some (true, s) := fz_of thawR ((cR_is s).trans (by rw [decide_eq_true rfl]; rfl))
  have h1 : mSetX 7 (mThaw (mCall m_edge_told (mCons (mVar 6) (mCons (mVar 3) mNil)))) (envR tx rw fs (some (.int k)) (some (encRow (edgeN :: ws))) c) s [E, []] = some (.fl (.nx (envR tx rw fs (some (.int k)) (some (encRow (edgeN :: ws))) (some d))), s, [E, []]) := by
    unfold mSetX mThaw
    rw [thawR, mCall_of (mCons_of (show mVar 6 _ _ = some _ from rfl) (mCons_of (show mVar 3 _ _ = some _ from rfl) mNil_of)) h]
    dsimp only
    rw [if_pos hf]
    rfl
  have h2 : mApp 3 (mVar 7) (envR tx rw fs (some (.int k)) (some (encRow (edgeN :: ws))) (some d)) s [E, []] = some (.fl (.nx (envR tx rw fs (some (.int k)) (some (encRow (edgeN :: ws))) (some d))), s, [E ++ [d], []]) := by
    have u : unq (opq 0) = some 0 := rfl
    simp only [mApp, mVar, List.getElem?_cons_zero, List.getElem?_cons_succ, u, List.set_cons_zero]
    rw [if_pos ⟨hl, ht⟩]
  exact (mSeqX_nx ((mIfX_t hc).trans ((mSeqX_nx h1).trans h2))).trans (nR_is hu ht s)
theorem row_turnR {tx : Str} {rw fs E Pl : List Dt} {k : Int} {w0 : List Nat} {ws : Row} {c : Option Dt} {d : Dt} {s : Tn} (hw : w0 ≠ edgeN ∨ Pl ≠ []) (h : m_turn_told [encRow (w0 :: ws)] s = some (d, s)) (hu : unq d = none) (ht : isTin d = false) (hl : Pl.length < line) :
    bR (envR tx rw fs (some (.int k)) (some (encRow (w0 :: ws))) c) s [E, Pl] = if isNon d then some (.ex k, s, [E, Pl ++ [d]]) else some (.fl (.nx (envR tx rw fs (some (.int k)) (some (encRow (w0 :: ws))) (some d))), s, [E, Pl ++ [d]]) := by
  have hc : fz cR (envR tx rw fs (some (.int k)) (some (encRow (w0 :: ws))) c) s [E, Pl] = some (false, s) := fz_of thawR ((cR_is s).trans (by
    rcases hw with hw | hw
    · rw [decide_eq_false fun z => hw (_root_.SX.S_inj z)]
      rfl
    · cases Pl with
      | nil => exact absurd rfl hw
      | cons p Pl => cases decide (S w0 = S edgeN) <;> rfl))
  have h1 : mUp (mAsg (mCall m_turn_told (mCons (mVar 6) mNil)) (aName 7)) (envR tx rw fs (some (.int k)) (some (encRow (w0 :: ws))) c) s [E, Pl] = some (.fl (.nx (envR tx rw fs (some (.int k)) (some (encRow (w0 :: ws))) (some d))), s, [E, Pl]) := by
    unfold mUp
    rw [mAsg_of (mCall_of (mCons_of (show mVar 6 _ _ = some _ from rfl) mNil_of) h) rfl]
    rfl
  have h2 : mApp 4 (mVar 7) (envR tx rw fs (some (.int k)) (some (encRow (w0 :: ws))) (some d)) s [E, Pl] = some (.fl (.nx (envR tx rw fs (some (.int k)) (some (encRow (w0 :: ws))) (some d))), s, [E, Pl ++ [d]]) := by
    have u : unq (opq 1) = some 1 := rfl
    simp only [mApp, mVar, List.getElem?_cons_zero, List.getElem?_cons_succ, u, List.set_cons_succ, List.set_cons_zero]
    rw [if_pos ⟨hl, ht⟩]
  exact (mSeqX_nx ((mIfX_f hc).trans ((mSeqX_nx h1).trans h2))).trans (nR_is hu ht s)
/-! the loop -/
theorem for_nx {g : Dt → Ev → Option Ev} {t : mX} {d : Dt} {ds : List Dt} {env e e2 : Ev} {s s1 : Tn} {O O1 : Ow} (hg : g d env = some e) (h : t e s O = some (.fl (.nx e2), s1, O1)) : mForLX g t (d :: ds) env s O = mForLX g t ds e2 s1 O1 := by
  show (match g d env with
    | none => none
    | some e => match t e s O with
      | some (.fl (.nx e), s2, O2) => mForLX g t ds e s2 O2
      | some (.fl (.ct e), s2, O2) => mForLX g t ds e s2 O2
      | some (.fl (.bk e), s2, O2) => some (.fl (.nx e), s2, O2)
      | some (.fl (.rt d), s2, O2) => some (.fl (.rt d), s2, O2)
      | some (.ex i, s2, O2) => some (.ex i, s2, O2)
      | none => none) = _
  rw [hg]
  dsimp only
  rw [h]
theorem for_ex {g : Dt → Ev → Option Ev} {t : mX} {d : Dt} {ds : List Dt} {env e : Ev} {i : Int} {s s1 : Tn} {O O1 : Ow} (hg : g d env = some e) (h : t e s O = some (.ex i, s1, O1)) : mForLX g t (d :: ds) env s O = some (.ex i, s1, O1) := by
  show (match g d env with
    | none => none
    | some e => match t e s O with
      | some (.fl (.nx e), s2, O2) => mForLX g t ds e s2 O2
      | some (.fl (.ct e), s2, O2) => mForLX g t ds e s2 O2
      | some (.fl (.bk e), s2, O2) => some (.fl (.nx e), s2, O2)
      | some (.fl (.rt d), s2, O2) => some (.fl (.rt d), s2, O2)
      | some (.ex i, s2, O2) => some (.ex i, s2, O2)
      | none => none) = _
  rw [hg]
  dsimp only
  rw [h]
def rowsD : List Int → List Row → List Dt
  | k :: ks, r :: rs => rowD k r :: rowsD ks rs
  | _, _ => []
theorem zipR_D : ∀ (ks : List Int) (rs : List Row), (zipR ks rs).map Md.encRw = rowsD ks rs
  | [], _ => rfl
  | _ :: _, [] => rfl
  | k :: ks, r :: rs => by
    show PyData.tuple [.int k, .list ((r.map S).map .str)] :: (zipR ks rs).map Md.encRw = rowD k r :: rowsD ks rs
    rw [zipR_D ks rs, List.map_map]
    rfl
theorem rowsD_app : ∀ (k1 k2 : List Int) (r1 r2 : List Row), k1.length = r1.length → rowsD (k1 ++ k2) (r1 ++ r2) = rowsD k1 r1 ++ rowsD k2 r2
  | [], _, [], _, _ => rfl
  | k :: k1, k2, r :: r1, r2, h => by
    show rowD k r :: rowsD (k1 ++ k2) (r1 ++ r2) = rowD k r :: (rowsD k1 r1 ++ rowsD k2 r2)
    rw [rowsD_app k1 k2 r1 r2 (by simpa using h)]
/-- edges in order behind what is there -/
def SortedE (es : List Ed) : Prop := es.Pairwise fun a b => ltE a b = true
theorem loop_edges {tx : Str} {rw fs : List Dt} {s : Tn} {rest : List Dt} : ∀ (es : List Ed) (ks : List Int) (E0 : List Ed) (a b c : Option Dt), ks.length = es.length → SortedE (E0 ++ es) → (∀ e ∈ es, GoodE e) → E0.length + es.length < line →
    ∃ a' b' c', mForLX gR bR (rowsD ks (es.map edgeRow) ++ rest) (envR tx rw fs a b c) s [E0.map enc2, []] = mForLX gR bR rest (envR tx rw fs a' b' c') s [(E0 ++ es).map enc2, []]
  | [], [], E0, a, b, c, _, _, _, _ => ⟨a, b, c, by rw [List.append_nil] <;> rfl⟩
  | e :: es, k :: ks, E0, a, b, c, hk, hs, hg, hl => by
    have hb : (E0.map enc2 = [] ∧ true = true) ∨ ∃ xs l, E0.map enc2 = xs ++ [enc2 l] ∧ true = ltE l e := by
      rcases List.eq_nil_or_concat E0 with rfl | ⟨xs, l, rfl⟩
      · exact .inl ⟨rfl, rfl⟩
      · refine .inr ⟨xs.map enc2, l, by simp, ?_⟩
        have h1 := (List.pairwise_append.mp hs).2.2 l (by simp) e List.mem_cons_self
        exact h1.symm
    have he := edge_good (hg e List.mem_cons_self) hb s
    rw [if_pos rfl] at he
    have h1 := row_edgeR (tx := tx) (rw := rw) (fs := fs) (k := k) (c := c) he rfl rfl rfl (by rw [List.length_map]; rw [List.length_cons] at hl; omega)
    have h1 : bR (envR tx rw fs (some (.int k)) (some (encRow (edgeRow e))) c) s [E0.map enc2, []] = some (.fl (.nx (envR tx rw fs (some (.int k)) (some (encRow (edgeRow e))) (some (enc2 e)))), s, [E0.map enc2 ++ [enc2 e], []]) := h1
    have e1 : (E0 ++ [e]) ++ es = E0 ++ e :: es := by simp
    obtain ⟨a', b', c', ih⟩ := loop_edges (tx := tx) (rw := rw) (fs := fs) (s := s) (rest := rest) es ks (E0 ++ [e]) (some (.int k)) (some (encRow (edgeRow e))) (some (enc2 e)) (by simpa using hk) (by rw [e1]; exact hs) (fun z hz => hg z (List.mem_cons_of_mem _ hz)) (by rw [List.length_append, List.length_singleton]; rw [List.length_cons] at hl; omega)
    refine ⟨a', b', c', ?_⟩
    rw [← e1, ← ih, List.map_append]
    exact for_nx rfl h1
theorem loop_turns {tx : Str} {rw fs E : List Dt} {s : Tn} {rest : List Dt} : ∀ (hs : List Pr) (ks : List Int) (P0 : List Pr) (a b c : Option Dt), ks.length = hs.length → (∀ h ∈ hs, GoodH h) → P0.length + hs.length < line →
    ∃ a' b' c', mForLX gR bR (rowsD ks (hs.map halfRow) ++ rest) (envR tx rw fs a b c) s [E, P0.map enc] = mForLX gR bR rest (envR tx rw fs a' b' c') s [E, (P0 ++ hs).map enc]
  | [], [], P0, a, b, c, _, _, _ => ⟨a, b, c, by rw [List.append_nil] <;> rfl⟩
  | h :: hs, k :: ks, P0, a, b, c, hk, hg, hl => by
    have he := turn_good (hg h List.mem_cons_self) s
    have h1 := row_turnR (tx := tx) (rw := rw) (fs := fs) (E := E) (Pl := P0.map enc) (k := k) (c := c) (.inl (by decide)) he rfl rfl (by rw [List.length_map]; rw [List.length_cons] at hl; omega)
    have h1 : bR (envR tx rw fs (some (.int k)) (some (encRow (halfRow h))) c) s [E, P0.map enc] = some (.fl (.nx (envR tx rw fs (some (.int k)) (some (encRow (halfRow h))) (some (enc h)))), s, [E, P0.map enc ++ [enc h]]) := h1
    have e1 : (P0 ++ [h]) ++ hs = P0 ++ h :: hs := by simp
    obtain ⟨a', b', c', ih⟩ := loop_turns (tx := tx) (rw := rw) (fs := fs) (E := E) (s := s) (rest := rest) hs ks (P0 ++ [h]) (some (.int k)) (some (encRow (halfRow h))) (some (enc h)) (by simpa using hk) (fun z hz => hg z (List.mem_cons_of_mem _ hz)) (by rw [List.length_append, List.length_singleton]; rw [List.length_cons] at hl; omega)
    refine ⟨a', b', c', ?_⟩
    rw [← e1, ← ih, List.map_append]
    exact for_nx rfl h1
theorem loop_bad {tx : Str} {rw fs E Pl : List Dt} {s : Tn} {rest : List Dt} {r : Row} {k : Int} {a b c : Option Dt} (h : BadRow r) (hE : E.length < line) (hP : Pl.length < line) : ∃ O, mForLX gR bR (rowD k r :: rest) (envR tx rw fs a b c) s [E, Pl] = some (.ex k, s, O) := by
  obtain ⟨w0, ws, rfl, h1, h2, h3⟩ := h.ex
  have he := edge_none (v := .list E) (h.pairs edgeN s)
  have ht := turn_none (h.pairs turnN s)
  by_cases hw : w0 = edgeN ∧ Pl = []
  · obtain ⟨rfl, rfl⟩ := hw
    have h4 := row_edgeR (tx := tx) (rw := rw) (fs := fs) (k := k) (c := c) he rfl rfl rfl hE
    exact ⟨_, for_ex rfl h4⟩
  · have h4 := row_turnR (tx := tx) (rw := rw) (fs := fs) (E := E) (Pl := Pl) (k := k) (c := c) (by
      by_cases q : w0 = edgeN
      · exact .inr fun z => hw ⟨q, z⟩
      · exact .inl q) ht rfl rfl hP
    exact ⟨_, for_ex rfl h4⟩
/-- an edge told twice -/
theorem loop_twice {tx : Str} {rw fs : List Dt} {s : Tn} {rest : List Dt} {e : Ed} {E0 : List Ed} {k : Int} {a b c : Option Dt} (h : GoodE e) (hE : E0.length + 1 < line) : ∃ O, mForLX gR bR (rowD k (edgeRow e) :: rest) (envR tx rw fs a b c) s [(E0 ++ [e]).map enc2, []] = some (.ex k, s, O) := by
  have he := edge_good h (E := (E0 ++ [e]).map enc2) (b := false) (.inr ⟨E0.map enc2, e, by simp, by
    cases q : ltE e e with
    | false => rfl
    | true =>
      rw [ltE_iff] at q
      omega⟩) s
  have h4 := row_edgeR (tx := tx) (rw := rw) (fs := fs) (k := k) (c := c) he rfl rfl rfl (by rw [List.length_map, List.length_append]; exact hE)
  exact ⟨_, for_ex rfl h4⟩
/-- another field row -/
theorem loop_field {tx : Str} {rw fs E Pl : List Dt} {s : Tn} {rest : List Dt} {ps : List Pr} {k : Int} {a b c : Option Dt} (h : ∀ p ∈ ps, Small p.1 ∧ Small p.2) (hl : ps.length ≤ 40) (hP : Pl.length < line) : ∃ O, mForLX gR bR (rowD k (fieldRow ps) :: rest) (envR tx rw fs a b c) s [E, Pl] = some (.ex k, s, O) := by
  have hn := pairs_none (w0 := fieldN) (nm := turnN) (numok_nums h) (by rw [List.length_map, numsP_len]; omega) (.inl (by decide)) s
  have ht := turn_none (r := fieldRow ps) hn
  have h4 := row_turnR (tx := tx) (rw := rw) (fs := fs) (E := E) (Pl := Pl) (k := k) (c := c) (.inl (by decide)) ht rfl rfl hP
  exact ⟨_, for_ex rfl h4⟩
end Md
-- My15
set_option Elab.async false
set_option linter.all false
set_option maxRecDepth 100000
set_option maxHeartbeats 4000000
/-! read_sheet. -/
namespace Md
open PySem PySem.Spec PyProof.Rows L2
open _root_.SX (S)
set_option autoImplicit false
abbrev env0 (tx : Str) (D : List Dt) : Ev := [some (.str tx), some (.list D), none, none, none, none, none, none]
abbrev env1 (tx : Str) (D : List Dt) (d : Dt) : Ev := [some (.str tx), some (.list D), some d, some (opq 0), some (opq 1), none, none, none]
abbrev pFld : mX := mPar3X 2 3 4 (mConsX (mUpE (mCall m_pairs_told (mCons (m2 dIx (m2 dIx (mVar 1) (mC (.int 0))) (mC (.int 1))) (mCons (mC (.str ("field" : Str))) mNil)))) (mConsX (mNewL mNil) (mConsX (mNewL mNil) mNilX)))
abbrev cFld : mB := mBor (mT (m2 dIsN (mVar 2) (mC .none))) (mBnot (mT (mCall m_is_field (mCons (mVar 2) mNil))))
abbrev rFld : mX := mRaise (m2 dIx (m2 dIx (mVar 1) (mC (.int 0))) (mC (.int 0)))
abbrev lFld : mX := mForX (iL (mSl (mVar 1) (oSome (mC (.int 1))) oNone)) gR bR
abbrev eFld : mX := mRetT (mF dTup (mCons (mVar 2) (mCons (mF dTuple (mCons (mVar 3) mNil)) (mCons (mF dTuple (mCons (mVar 4) mNil)) mNil))))
theorem first_ix {tx : Str} {k : Int} {r : Row} {Ds : List Dt} {a b c d e f : Option Dt} (s : Tn) : m2 dIx (mVar 1) (mC (.int 0)) [some (.str tx), some (.list (rowD k r :: Ds)), a, b, c, d, e, f] s = some (rowD k r, s) :=
  m2_of (show mVar 1 _ _ = some _ from rfl) (show mC _ _ _ = some _ from rfl) (show L2.atI _ ((0 : Nat) : Int) = _ from atI_at rfl)
theorem first_row {tx : Str} {k : Int} {r : Row} {Ds : List Dt} {a b c d e f : Option Dt} (s : Tn) : m2 dIx (m2 dIx (mVar 1) (mC (.int 0))) (mC (.int 1)) [some (.str tx), some (.list (rowD k r :: Ds)), a, b, c, d, e, f] s = some (encRow r, s) :=
  m2_of (first_ix s) (show mC _ _ _ = some _ from rfl) (show L2.atI [PyData.int k, encRow r] ((1 : Nat) : Int) = _ from atI_at rfl)
theorem first_num {tx : Str} {k : Int} {r : Row} {Ds : List Dt} {a b c d e f : Option Dt} (s : Tn) : m2 dIx (m2 dIx (mVar 1) (mC (.int 0))) (mC (.int 0)) [some (.str tx), some (.list (rowD k r :: Ds)), a, b, c, d, e, f] s = some (.int k, s) :=
  m2_of (first_ix s) (show mC _ _ _ = some _ from rfl) (show L2.atI [PyData.int k, encRow r] ((0 : Nat) : Int) = _ from atI_at rfl)
theorem par_fld {tx : Str} {k : Int} {r : Row} {Ds : List Dt} {d : Dt} {s : Tn} (h : m_pairs_told [encRow r, .str (S fieldN)] s = some (d, s)) : pFld (env0 tx (rowD k r :: Ds)) s [] = some (.fl (.nx (env1 tx (rowD k r :: Ds) d)), s, [[], []]) := by
  rw [← lit_field] at h
  have h1 : mUpE (mCall m_pairs_told (mCons (m2 dIx (m2 dIx (mVar 1) (mC (.int 0))) (mC (.int 1))) (mCons (mC (.str ("field" : Str))) mNil))) (env0 tx (rowD k r :: Ds)) s [] = some (d, s, []) := by
    unfold mUpE
    rw [mCall_of (mCons_of (first_row s) (mCons_of (show mC _ _ _ = some _ from rfl) mNil_of)) h]
  have h2 : mConsX (mUpE (mCall m_pairs_told (mCons (m2 dIx (m2 dIx (mVar 1) (mC (.int 0))) (mC (.int 1))) (mCons (mC (.str ("field" : Str))) mNil)))) (mConsX (mNewL mNil) (mConsX (mNewL mNil) mNilX)) (env0 tx (rowD k r :: Ds)) s [] = some ([d, opq 0, opq 1], s, [[], []]) := by
    unfold mConsX
    rw [h1]
    rfl
  show mPar3X 2 3 4 _ _ _ _ = _
  unfold mPar3X
  rw [h2]
  rfl
theorem read_shape {tx : Str} {k : Int} {r : Row} {Ds : List Dt} {d : Dt} {s : Tn} {R : Option (Fx × Tn × Ow)} (hr : m_rows_of_pieces [.str tx] s = some (.inl (.list (rowD k r :: Ds)), s)) (h : m_pairs_told [encRow r, .str (S fieldN)] s = some (d, s))
    (hR : mSeqX (mIfX (fz cFld) rFld mNextX) (mSeqX lFld eFld) (env1 tx (rowD k r :: Ds) d) s [[], []] = R) : c_read_sheet (initE 8 [.str tx]) s [] = R := by
  have h1 : mSetR 1 m_rows_of_pieces (mCons (mVar 0) mNil) (initE 8 [.str tx]) s [] = some (.fl (.nx (env0 tx (rowD k r :: Ds))), s, []) := by
    unfold mSetR
    rw [mCons_of (show mVar 0 _ _ = some (.str tx, s) from rfl) mNil_of]
    dsimp only
    rw [hr]
    rfl
  have h2 : fz (mT (m2 dEq (mVar 1) (mF dLst mNil))) (env0 tx (rowD k r :: Ds)) s [] = some (false, s) := rfl
  have h3 : mIfX (fz (mT (m2 dEq (mVar 1) (mF dLst mNil)))) (mRaise (mC (.int 0))) mNextX (env0 tx (rowD k r :: Ds)) s [] = some (.fl (.nx (env0 tx (rowD k r :: Ds))), s, []) := (mIfX_f h2).trans rfl
  exact (mSeqX_nx h1).trans ((mSeqX_nx h3).trans ((mSeqX_nx (par_fld h)).trans hR))
theorem read_ex {tx : Str} {s : Tn} {i : Int} {O : Ow} (h : c_read_sheet (initE 8 [.str tx]) s [] = some (.ex i, s, O)) : m_read_sheet [.str tx] s = some (.inr i, s) := by
  unfold m_read_sheet mFnX
  rw [if_pos ⟨rfl, rfl⟩, h]
/-- a first row that is no field -/
theorem read_nofield {tx : Str} {k : Int} {r : Row} {Ds : List Dt} {s : Tn} (hr : m_rows_of_pieces [.str tx] s = some (.inl (.list (rowD k r :: Ds)), s)) (h : m_pairs_told [encRow r, .str (S fieldN)] s = some (.none, s)) : m_read_sheet [.str tx] s = some (.inr k, s) := by
  refine read_ex (O := [[], []]) (read_shape hr h (mSeqX_ex ((mIfX_t (fz_of rfl (mBor_t (mT_of (m2_of (show mVar 2 _ _ = some (.none, s) from rfl) (show mC _ _ _ = some _ from rfl) rfl))))).trans ?_)))
  show mRaise _ _ _ _ = _
  unfold mRaise
  rw [first_num s]
structure GoodF (ps : List Pr) : Prop where
  small : ∀ p ∈ ps, Small p.1 ∧ Small p.2
  len : ps.length ≤ 6
  ne : ps ≠ []
  ok : ∃ s, m_is_field [.tuple (ps.map enc)] (0, 0, 0) = some (.bool true, s)
theorem read_field {tx : Str} {k : Int} {ps : List Pr} {Ds : List Dt} {s : Tn} {R : Option (Fx × Tn × Ow)} (hr : m_rows_of_pieces [.str tx] s = some (.inl (.list (rowD k (fieldRow ps) :: Ds)), s)) (g : GoodF ps)
    (hR : mSeqX lFld eFld (envR tx (rowD k (fieldRow ps) :: Ds) (ps.map enc) none none none) s [[], []] = R) : c_read_sheet (initE 8 [.str tx]) s [] = R := by
  have hl := g.len
  have hp := pairs_some (nm := fieldN) g.small (by omega) s
  obtain ⟨s0, hf⟩ := g.ok
  have hf := pf_is_field.at hf s
  refine read_shape hr hp ((mSeqX_nx ((mIfX_f (fz_of rfl ((mBor_f (mT_of (m2_of (show mVar 2 _ _ = some (.tuple (ps.map enc), s) from rfl) (show mC _ _ _ = some _ from rfl) rfl))).trans (mBnot_of (mT_of (mCall_of (mCons_of (show mVar 2 _ _ = some (.tuple (ps.map enc), s) from rfl) mNil_of) hf)))))).trans rfl)).trans hR)
theorem loop_at {tx : Str} {x : Dt} {Ds fs : List Dt} {s : Tn} : lFld (envR tx (x :: Ds) fs none none none) s [[], []] = mForLX gR bR Ds (envR tx (x :: Ds) fs none none none) s [[], []] := by
  have h1 : iL (mSl (mVar 1) (oSome (mC (.int 1))) oNone) (envR tx (x :: Ds) fs none none none) s = some (Ds, s) := by
    show (match (match dSl (.list (x :: Ds)) (some 1) none with
      | none => none
      | some z => some (z, s)) with
      | some (PyData.list ds, s1) => some (ds, s1)
      | _ => none) = _
    unfold dSl
    dsimp only
    rw [cut_tail]
  show mForX _ _ _ _ _ _ = _
  unfold mForX
  rw [h1]
/-- the loop raises -/
theorem read_raises {tx : Str} {k i : Int} {ps : List Pr} {Ds : List Dt} {s : Tn} (hr : m_rows_of_pieces [.str tx] s = some (.inl (.list (rowD k (fieldRow ps) :: Ds)), s)) (g : GoodF ps)
    (h : ∃ O, mForLX gR bR Ds (envR tx (rowD k (fieldRow ps) :: Ds) (ps.map enc) none none none) s [[], []] = some (.ex i, s, O)) : m_read_sheet [.str tx] s = some (.inr i, s) := by
  obtain ⟨O, h⟩ := h
  exact read_ex (read_field hr g (mSeqX_ex (loop_at.trans h)))
/-- the loop ends -/
theorem read_ends {tx : Str} {k : Int} {ps : List Pr} {Ds E Pl : List Dt} {s : Tn} {a b c : Option Dt} (hr : m_rows_of_pieces [.str tx] s = some (.inl (.list (rowD k (fieldRow ps) :: Ds)), s)) (g : GoodF ps)
    (h : mForLX gR bR Ds (envR tx (rowD k (fieldRow ps) :: Ds) (ps.map enc) none none none) s [[], []] = some (.fl (.nx (envR tx (rowD k (fieldRow ps) :: Ds) (ps.map enc) a b c)), s, [E, Pl])) : m_read_sheet [.str tx] s = some (.inl (.tuple [.tuple (ps.map enc), .tuple E, .tuple Pl]), s) := by
  have he : eFld (envR tx (rowD k (fieldRow ps) :: Ds) (ps.map enc) a b c) s [E, Pl] = some (.fl (.rt (.tuple [.tuple (ps.map enc), .tuple E, .tuple Pl])), s, []) := rfl
  unfold m_read_sheet mFnX
  rw [if_pos ⟨rfl, rfl⟩, read_field hr g ((mSeqX_nx (loop_at.trans h)).trans he)]
  rfl
end Md
-- My16
set_option Elab.async false
set_option linter.all false
set_option maxRecDepth 100000
set_option maxHeartbeats 4000000
/-! Edges and halves drawn. -/
namespace Md
open PySem PySem.Spec PyProof.Rows L2
open _root_.SX (S)
set_option autoImplicit false
def smallB (p : Pr) : Bool := decide (-40 ≤ p.1) && decide (p.1 ≤ 40) && decide (-40 ≤ p.2) && decide (p.2 ≤ 40)
theorem small_of {p : Pr} (h : smallB p = true) : Small p.1 ∧ Small p.2 := by
  unfold smallB at h
  simp only [Bool.and_eq_true, decide_eq_true_eq] at h
  exact ⟨⟨h.1.1.1, h.1.1.2⟩, ⟨h.1.2, h.2⟩⟩
def isT (o : Option (Dt × Tn)) : Bool := match o with
  | some (.bool true, _) => true
  | _ => false
theorem isT_of {o : Option (Dt × Tn)} (h : isT o = true) : ∃ s, o = some (.bool true, s) := by
  unfold isT at h
  split at h
  · exact ⟨_, rfl⟩
  · cases h
def steps : List Pr := [(1, 0), (0, 1), (1, 1), (1, -1), (2, 1), (3, -5), (1, 7)]
def edgeAt (x y : Int) (st : Pr) : Ed := ((x, y), (x + st.1, y + st.2))
def chkE (e : Ed) : Bool := smallB e.1 && smallB e.2 && isT (m_is_edge [enc2 e] (0, 0, 0))
theorem chkE_all : ((List.range 13).all fun x => (List.range 13).all fun y => steps.all fun st => chkE (edgeAt ((x : Int) - 6) ((y : Int) - 6) st)) = true := by decide +kernel
theorem goodE {x y : Int} {st : Pr} (hx : -6 ≤ x ∧ x ≤ 6) (hy : -6 ≤ y ∧ y ≤ 6) (hs : st ∈ steps) : GoodE (edgeAt x y st) := by
  have h1 := List.all_eq_true.mp chkE_all (x + 6).toNat (List.mem_range.mpr (by omega))
  have h2 := List.all_eq_true.mp h1 (y + 6).toNat (List.mem_range.mpr (by omega))
  have h3 := List.all_eq_true.mp h2 st hs
  have e1 : (((x + 6).toNat : Nat) : Int) - 6 = x := by omega
  have e2 : (((y + 6).toNat : Nat) : Int) - 6 = y := by omega
  rw [e1, e2] at h3
  unfold chkE at h3
  simp only [Bool.and_eq_true] at h3
  refine ⟨fun p hp => ?_, isT_of h3.2⟩
  rcases List.mem_cons.mp hp with rfl | hp
  · exact small_of h3.1.1
  · cases List.mem_singleton.mp hp
    exact small_of h3.1.2
def chkH (h : Pr) : Bool := smallB h && isT (m_is_plan_told [.tuple [enc h]] (0, 0, 0))
theorem chkH_all : ((List.range 26).all fun x => (List.range 25).all fun y => decide (((x : Int) - 12) % 2 = 0) && decide (((y : Int) - 12) % 2 = 0) || chkH ((x : Int) - 12, (y : Int) - 12)) = true := by decide +kernel
theorem goodH {x y : Int} (hx : -12 ≤ x ∧ x ≤ 13) (hy : -12 ≤ y ∧ y ≤ 12) (ho : x % 2 = 1 ∨ y % 2 = 1) : GoodH (x, y) := by
  have h1 := List.all_eq_true.mp chkH_all (x + 12).toNat (List.mem_range.mpr (by omega))
  have h2 := List.all_eq_true.mp h1 (y + 12).toNat (List.mem_range.mpr (by omega))
  have e1 : (((x + 12).toNat : Nat) : Int) - 12 = x := by omega
  have e2 : (((y + 12).toNat : Nat) : Int) - 12 = y := by omega
  rw [e1, e2] at h2
  simp only [Bool.or_eq_true, Bool.and_eq_true, decide_eq_true_eq] at h2
  rcases h2 with h2 | h2
  · omega
  · unfold chkH at h2
    rw [Bool.and_eq_true] at h2
    refine ⟨fun p hp => ?_, isT_of h2.2⟩
    cases List.mem_singleton.mp hp
    exact small_of h2.1
theorem subI (i j : Int) : dSub (.int i) (.int j) = some (.int (i - j)) := rfl
/-- take, less a number -/
theorem takeS {n : Nat} {s : Tn} {b j : Int} {env : Ev} (h0 : 0 < b) (h1 : b < 1073741824) (he : mVar 0 env s = some (.dict [], s)) (ok : Okn (n + 1) s) : ∃ v s', m2 dSub (mCall m_law_take (mCons (mVar 0) (mCons (mC (.int b)) mNil))) (mC (.int j)) env s = some (.int (v - j), s') ∧ 0 ≤ v ∧ v < b ∧ Okn n s' := by
  obtain ⟨v, s', a, b1, c, d⟩ := take_ok h0 h1 ok
  exact ⟨v, s', m2_of (mCall_of (mCons_of he (mCons_of (show mC _ _ _ = some _ from rfl) mNil_of)) a) (show mC _ _ _ = some _ from rfl) (subI _ _), b1, c, d⟩
abbrev aSteps : mA := (mCons (mF dTup (mCons (mC (.int 1)) (mCons (mC (.int 0)) mNil))) (mCons (mF dTup (mCons (mC (.int 0)) (mCons (mC (.int 1)) mNil))) (mCons (mF dTup (mCons (mC (.int 1)) (mCons (mC (.int 1)) mNil))) (mCons (mF dTup (mCons (mC (.int 1)) (mCons (m1 dNeg (mC (.int 1))) mNil))) (mCons (mF dTup (mCons (mC (.int 2)) (mCons (mC (.int 1)) mNil))) (mCons (mF dTup (mCons (mC (.int 3)) (mCons (m1 dNeg (mC (.int 5))) mNil))) (mCons (mF dTup (mCons (mC (.int 1)) (mCons (mC (.int 7)) mNil))) mNil)))))))
theorem eSteps (env : Ev) (s : Tn) : mF dLst aSteps env s = some (.list (steps.map enc), s) := rfl
theorem ix_enc0 (p : Pr) : dIx (enc p) (.int 0) = some (.int p.1) := rfl
theorem ix_enc1 (p : Pr) : dIx (enc p) (.int 1) = some (.int p.2) := rfl
theorem brink_ok {n : Nat} {s : Tn} (ok : Okn (n + 3) s) : ∃ e s', m_law_any_brink [.dict []] s = some (enc2 e, s') ∧ GoodE e ∧ Okn n s' := by
  obtain ⟨v1, s1, h1, a1, b1, k1⟩ := takeS (n := n + 2) (b := 13) (j := 6) (env := initE 3 [.dict []]) (by decide) (by decide) rfl ok
  obtain ⟨v2, s2, h2, a2, b2, k2⟩ := takeS (n := n + 1) (b := 13) (j := 6) (env := initE 3 [.dict []]) (by decide) (by decide) rfl k1
  obtain ⟨d, s3, h3, c3, k3⟩ := of_ok (L := steps.map enc) (by decide) (by decide) k2
  obtain ⟨st, hst, rfl⟩ := List.mem_map.mp c3
  refine ⟨edgeAt (v1 - 6) (v2 - 6) st, s3, ?_, goodE ⟨by omega, by omega⟩ ⟨by omega, by omega⟩ hst, k3⟩
  refine mFn_of rfl ?_
  refine (mSeq_nx (mAsg_of (mF_of (mCons_of h1 (mCons_of h2 mNil_of)) (show dTup [.int (v1 - 6), .int (v2 - 6)] = some (enc (v1 - 6, v2 - 6)) from rfl)) rfl)).trans ?_
  refine (mSeq_nx (mAsg_of (mCall_of (mCons_of (show mVar 0 _ _ = some (.dict [], s2) from rfl) (mCons_of (eSteps _ s2) mNil_of)) h3) rfl)).trans (mRet_of ?_)
  exact mF_of (mCons_of (show mVar 1 _ _ = some (enc (v1 - 6, v2 - 6), s3) from rfl) (mCons_of (mF_of (mCons_of (m2_of (m2_of (show mVar 1 _ _ = some (enc (v1 - 6, v2 - 6), s3) from rfl) (show mC _ _ _ = some _ from rfl) (ix_enc0 _)) (m2_of (show mVar 2 _ _ = some (enc st, s3) from rfl) (show mC _ _ _ = some _ from rfl) (ix_enc0 _)) (addI _ _)) (mCons_of (m2_of (m2_of (show mVar 1 _ _ = some (enc (v1 - 6, v2 - 6), s3) from rfl) (show mC _ _ _ = some _ from rfl) (ix_enc1 _)) (m2_of (show mVar 2 _ _ = some (enc st, s3) from rfl) (show mC _ _ _ = some _ from rfl) (ix_enc1 _)) (addI _ _)) mNil_of)) rfl) mNil_of)) rfl
theorem mod2 (v : Int) : dMod (.int v) (.int 2) = some (.int (v % 2)) := rfl
theorem half_ok {n : Nat} {s : Tn} (ok : Okn (n + 2) s) : ∃ h s', m_law_any_half [.dict []] s = some (enc h, s') ∧ GoodH h ∧ Okn n s' := by
  obtain ⟨v1, s1, h1, a1, b1, k1⟩ := takeS (n := n + 1) (b := 25) (j := 12) (env := initE 3 [.dict []]) (by decide) (by decide) rfl ok
  obtain ⟨v2, s2, h2, a2, b2, k2⟩ := takeS (n := n) (b := 25) (j := 12) (env := initE 3 [.dict []]) (by decide) (by decide) rfl k1
  have p1 : mPar 1 2 (mCons (m2 dSub (mCall m_law_take (mCons (mVar 0) (mCons (mC (.int 25)) mNil))) (mC (.int 12))) (mCons (m2 dSub (mCall m_law_take (mCons (mVar 0) (mCons (mC (.int 25)) mNil))) (mC (.int 12))) mNil)) (initE 3 [.dict []]) s = some (.nx [some (.dict []), some (.int (v1 - 12)), some (.int (v2 - 12))], s2) := by
    unfold mPar
    rw [mCons_of h1 (mCons_of h2 mNil_of)]
    rfl
  have q : ∀ (i : Nat) (v : Int), mVar i [some (.dict []), some (.int (v1 - 12)), some (.int (v2 - 12))] s2 = some (.int v, s2) → mT (m2 dEq (m2 dMod (mF dInt (mCons (mVar i) mNil)) (mC (.int 2))) (mC (.int 1))) [some (.dict []), some (.int (v1 - 12)), some (.int (v2 - 12))] s2 = some (decide (v % 2 = 1), s2) := fun i v hv =>
    mT_of (m2_of (m2_of (mF_of (mCons_of hv mNil_of) (show dInt [.int v] = some (.int v) from rfl)) (show mC _ _ _ = some _ from rfl) (mod2 v)) (show mC _ _ _ = some _ from rfl) rfl)
  have q1 := q 1 (v1 - 12) rfl
  have q2 := q 2 (v2 - 12) rfl
  have fin : ∀ h : Pr, GoodH h → mIf (mBor (mT (m2 dEq (m2 dMod (mF dInt (mCons (mVar 1) mNil)) (mC (.int 2))) (mC (.int 1)))) (mT (m2 dEq (m2 dMod (mF dInt (mCons (mVar 2) mNil)) (mC (.int 2))) (mC (.int 1))))) (mF dTup (mCons (mVar 1) (mCons (mVar 2) mNil))) (mF dTup (mCons (m2 dAdd (mVar 1) (mC (.int 1))) (mCons (mVar 2) mNil))) [some (.dict []), some (.int (v1 - 12)), some (.int (v2 - 12))] s2 = some (enc h, s2) → ∃ h s', m_law_any_half [.dict []] s = some (enc h, s') ∧ GoodH h ∧ Okn n s' := fun h g e =>
    ⟨h, s2, mFn_of rfl ((mSeq_nx p1).trans (mRet_of e)), g, k2⟩
  have t1 : mF dTup (mCons (mVar 1) (mCons (mVar 2) mNil)) [some (.dict []), some (.int (v1 - 12)), some (.int (v2 - 12))] s2 = some (enc (v1 - 12, v2 - 12), s2) := rfl
  have t2 : mF dTup (mCons (m2 dAdd (mVar 1) (mC (.int 1))) (mCons (mVar 2) mNil)) [some (.dict []), some (.int (v1 - 12)), some (.int (v2 - 12))] s2 = some (enc (v1 - 12 + 1, v2 - 12), s2) := rfl
  by_cases c1 : (v1 - 12) % 2 = 1
  · rw [decide_eq_true c1] at q1
    exact fin (v1 - 12, v2 - 12) (goodH ⟨by omega, by omega⟩ ⟨by omega, by omega⟩ (.inl c1)) ((mIf_t (mBor_t q1)).trans t1)
  · rw [decide_eq_false c1] at q1
    by_cases c2 : (v2 - 12) % 2 = 1
    · rw [decide_eq_true c2] at q2
      exact fin (v1 - 12, v2 - 12) (goodH ⟨by omega, by omega⟩ ⟨by omega, by omega⟩ (.inr c2)) ((mIf_t ((mBor_f q1).trans q2)).trans t1)
    · rw [decide_eq_false c2] at q2
      exact fin (v1 - 12 + 1, v2 - 12) (goodH ⟨by omega, by omega⟩ ⟨by omega, by omega⟩ (.inl (by omega))) ((mIf_f ((mBor_f q1).trans q2)).trans t2)
end Md
-- My17
set_option Elab.async false
set_option linter.all false
set_option maxRecDepth 100000
set_option maxHeartbeats 4000000
/-! A sheet drawn. -/
namespace Md
open PySem PySem.Spec PyProof.Rows L2
open _root_.SX (S)
set_option autoImplicit false
theorem edges_map : ∀ es : List Ed, edges? (es.map enc2) = some es
  | [] => rfl
  | e :: es => by
    show (match edges? (es.map enc2) with
      | some l => some (((e.1.1, e.1.2), (e.2.1, e.2.2)) :: l)
      | none => none) = _
    rw [edges_map es]
theorem brinks_loop {env : Ev} : ∀ (k n : Nat) (lo : Int) (s : Tn), (∀ i s1, mVar 0 (((wipeE env [2])).set 2 (some (.int i))) s1 = some (.dict [], s1)) → Okn (n + 3 * k) s → ∃ (es : List Ed) (s' : Tn), mLcL (aName 2) [2] (mCall m_law_any_brink (mCons (mVar 0) mNil)) (rngL lo k) env s = some (es.map enc2, s') ∧ es.length = k ∧ (∀ e ∈ es, GoodE e) ∧ Okn n s'
  | 0, n, lo, s, _, ok => ⟨[], s, rfl, rfl, fun e he => (by cases he), ok⟩
  | k + 1, n, lo, s, hv, ok => by
    obtain ⟨e, s1, h1, g1, k1⟩ := brink_ok (n := n + 3 * k) (by
      have : n + 3 * k + 3 = n + 3 * (k + 1) := by omega
      rw [this]
      exact ok)
    obtain ⟨es, s2, h2, l2, g2, k2⟩ := brinks_loop k n (lo + 1) s1 hv k1
    refine ⟨e :: es, s2, ?_, by rw [List.length_cons, l2], fun z hz => ?_, k2⟩
    · show (match mCall m_law_any_brink (mCons (mVar 0) mNil) ((wipeE env [2]).set 2 (some (.int lo))) s with
        | none => none
        | some (z, s1) => match mLcL (aName 2) [2] (mCall m_law_any_brink (mCons (mVar 0) mNil)) (rngL (lo + 1) k) env s1 with
          | none => none
          | some (zs, s2) => some (z :: zs, s2)) = _
      rw [mCall_of (mCons_of (hv lo s) mNil_of) h1]
      dsimp only
      rw [h2]
      rfl
    · rcases List.mem_cons.mp hz with rfl | hz
      · exact g1
      · exact g2 z hz
theorem halves_loop {env : Ev} : ∀ (k n : Nat) (lo : Int) (s : Tn), (∀ i s1, mVar 0 (((wipeE env [2])).set 2 (some (.int i))) s1 = some (.dict [], s1)) → Okn (n + 2 * k) s → ∃ (hs : List Pr) (s' : Tn), mLcL (aName 2) [2] (mCall m_law_any_half (mCons (mVar 0) mNil)) (rngL lo k) env s = some (hs.map enc, s') ∧ hs.length = k ∧ (∀ e ∈ hs, GoodH e) ∧ Okn n s'
  | 0, n, lo, s, _, ok => ⟨[], s, rfl, rfl, fun e he => (by cases he), ok⟩
  | k + 1, n, lo, s, hv, ok => by
    obtain ⟨e, s1, h1, g1, k1⟩ := half_ok (n := n + 2 * k) (by
      have : n + 2 * k + 2 = n + 2 * (k + 1) := by omega
      rw [this]
      exact ok)
    obtain ⟨es, s2, h2, l2, g2, k2⟩ := halves_loop k n (lo + 1) s1 hv k1
    refine ⟨e :: es, s2, ?_, by rw [List.length_cons, l2], fun z hz => ?_, k2⟩
    · show (match mCall m_law_any_half (mCons (mVar 0) mNil) ((wipeE env [2]).set 2 (some (.int lo))) s with
        | none => none
        | some (z, s1) => match mLcL (aName 2) [2] (mCall m_law_any_half (mCons (mVar 0) mNil)) (rngL (lo + 1) k) env s1 with
          | none => none
          | some (zs, s2) => some (z :: zs, s2)) = _
      rw [mCall_of (mCons_of (hv lo s) mNil_of) h1]
      dsimp only
      rw [h2]
      rfl
    · rcases List.mem_cons.mp hz with rfl | hz
      · exact g1
      · exact g2 z hz
def GroundSpec : Prop := ∀ (n : Nat) (s : Tn), Okn (n + 4) s → ∃ ps s', m_law_ground [.dict []] s = some (.tuple (ps.map enc), s') ∧ GoodF ps ∧ Okn n s'
structure Sheet (ps : List Pr) (es : List Ed) (hs : List Pr) : Prop where
  f : GoodF ps
  e : ∀ e ∈ es, GoodE e
  so : SortedE es
  el : es.length ≤ 4
  h : ∀ h ∈ hs, GoodH h
  hl : hs.length ≤ 3
theorem no_tin2 : ∀ es : List Ed, (es.map enc2).any isTin = false
  | [] => rfl
  | e :: es => no_tin2 es
theorem rng_of {a : mA} {env : Ev} {s s1 : Tn} {j : Int} (h : a env s = some ([.int j], s1)) (h0 : 0 ≤ j) (h1 : j < 1000) : iRng1 a env s = some (rngL 0 j.toNat, s1) := by
  unfold iRng1
  rw [h]
  dsimp only
  rw [if_pos (show smallI j from ⟨by omega, by omega⟩)]
theorem nub_len : ∀ es : List Ed, (nub es).length ≤ es.length
  | [] => Nat.le_refl _
  | e :: es => by
    have := nub_len es
    unfold nub
    split
    · rw [List.length_cons]
      omega
    · rw [List.length_cons, List.length_cons]
      omega
theorem sortE_mem {e : Ed} {es : List Ed} (h : e ∈ sortE es) : e ∈ es := mem_nub.mp ((List.mergeSort_perm (nub es) leE).mem_iff.mp h)
theorem sortE_len (es : List Ed) : (sortE es).length ≤ es.length := by
  have h := (List.mergeSort_perm (nub es) leE).length_eq
  have h2 := nub_len es
  show ((nub es).mergeSort leE).length ≤ _
  omega
theorem sortE_sorted (es : List Ed) : SortedE (sortE es) := by
  have h1 := List.pairwise_mergeSort leE_trans leE_total (nub es)
  have h2 : ((nub es).mergeSort leE).Nodup := (List.mergeSort_perm (nub es) leE).nodup_iff.mpr (nub_nodup es)
  have h3 := h1.and h2
  refine h3.imp fun {a b} hab => ?_
  obtain ⟨h4, h5⟩ := hab
  rw [leE_iff, ltE_iff] at h4
  rw [ltE_iff]
  have : ¬ (a.1.1 = b.1.1 ∧ a.1.2 = b.1.2 ∧ a.2.1 = b.2.1 ∧ a.2.2 = b.2.2) := fun z => h5 (Prod.ext (Prod.ext z.1 z.2.1) (Prod.ext z.2.2.1 z.2.2.2))
  omega
theorem tk_of {n : Nat} {s : Tn} {b : Int} {env : Ev} (h0 : 0 < b) (h1 : b < 1000) (he : mVar 0 env s = some (.dict [], s)) (ok : Okn (n + 1) s) : ∃ v s', iRng1 (mCons (mCall m_law_take (mCons (mVar 0) (mCons (mC (.int b)) mNil))) mNil) env s = some (rngL 0 v, s') ∧ v < b.toNat ∧ Okn n s' := by
  obtain ⟨v, s', a, b1, c, d⟩ := take_ok h0 (by omega) ok
  exact ⟨v.toNat, s', rng_of (mCons_of (mCall_of (mCons_of he (mCons_of (show mC _ _ _ = some _ from rfl) mNil_of)) a) mNil_of) b1 (by omega), by omega, d⟩
theorem sheet_ok (G : GroundSpec) {n : Nat} {s : Tn} (ok : Okn (n + 24) s) : ∃ ps es hs s', m_law_sheet [.dict []] s = some (.tuple [.tuple (ps.map enc), .tuple (es.map enc2), .tuple (hs.map enc)], s') ∧ Sheet ps es hs ∧ Okn n s' := by
  obtain ⟨v1, s1, h1, b1, k1⟩ := tk_of (n := n + 23) (b := 5) (env := initE 3 [.dict []]) (by decide) (by decide) rfl ok
  have b1 : v1 < 5 := b1
  obtain ⟨es0, s2, h2, l2, g2, k2⟩ := brinks_loop (env := initE 3 [.dict []]) v1 (n + 11) 0 s1 (fun _ _ => rfl) (k1.le (by omega))
  obtain ⟨ps, s3, h3, g3, k3⟩ := G (n + 7) s2 k2
  obtain ⟨v4, s4, h4, b4, k4⟩ := tk_of (n := n + 6) (b := 4) (env := [some (.dict []), some (.tuple ((sortE es0).map enc2)), none]) (by decide) (by decide) rfl k3
  have b4 : v4 < 4 := b4
  obtain ⟨hs, s5, h5, l5, g5, k5⟩ := halves_loop (env := [some (.dict []), some (.tuple ((sortE es0).map enc2)), none]) v4 n 0 s4 (fun _ _ => rfl) (k4.le (by omega))
  refine ⟨ps, sortE es0, hs, s5, ?_, ⟨g3, fun e he => g2 e (sortE_mem he), sortE_sorted es0, Nat.le_trans (sortE_len es0) (by omega), g5, by omega⟩, k5⟩
  have hd : dSortSet [.list (es0.map enc2)] = some (.list ((sortE es0).map enc2)) := by
    unfold dSortSet
    dsimp only
    rw [edges_map]
    dsimp only
    rw [if_pos (by omega)]
  refine mFn_of rfl ?_
  refine (mSeq_nx (mAsg_of (mF_of (mCons_of (mF_of (mCons_of (lc_of h1 h2 (no_tin2 es0) (by rw [List.length_map]; omega)) mNil_of) hd) mNil_of) (show dTuple [.list ((sortE es0).map enc2)] = some (.tuple ((sortE es0).map enc2)) from rfl)) rfl)).trans (mRet_of ?_)
  exact mF_of (mCons_of (mCall_of (mCons_of (show mVar 0 _ _ = some (.dict [], s2) from rfl) mNil_of) h3) (mCons_of (show mVar 1 _ _ = some (.tuple ((sortE es0).map enc2), s3) from rfl) (mCons_of (mF_of (mCons_of (lc_of h4 h5 (no_tin_enc hs) (by rw [List.length_map]; omega)) mNil_of) (show dTuple [.list (hs.map enc)] = some (.tuple (hs.map enc)) from rfl)) mNil_of))) rfl
end Md
-- My18
set_option Elab.async false
set_option linter.all false
set_option maxRecDepth 100000
set_option maxHeartbeats 4000000
/-! The rows of a sheet. -/
namespace Md
open PySem PySem.Spec PyProof.Rows L2
open _root_.SX (S)
set_option autoImplicit false
def strD (w : List Nat) : Dt := .str (S w)
theorem encRow_strD (r : Row) : encRow r = .list (r.map strD) := rfl
theorem strs_loop {env : Ev} {s : Tn} : ∀ is : List Int, (∀ i ∈ is, Small i) → (∀ d s1, mVar 5 ((wipeE env [5]).set 5 (some d)) s1 = some (d, s1)) → mLcL (aName 5) [5] (mF dStr (mCons (mVar 5) mNil)) (is.map .int) env s = some ((is.map numW).map strD, s)
  | [], _, _ => rfl
  | i :: is, h, hv => by
    have ih := strs_loop (env := env) (s := s) is (fun z hz => h z (List.mem_cons_of_mem _ hz)) hv
    show (match mF dStr (mCons (mVar 5) mNil) ((wipeE env [5]).set 5 (some (.int i))) s with
      | none => none
      | some (z, s1) => match mLcL (aName 5) [5] (mF dStr (mCons (mVar 5) mNil)) (is.map .int) env s1 with
        | none => none
        | some (zs, s2) => some (z :: zs, s2)) = _
    rw [mF_of (mCons_of (hv _ s) mNil_of) (str_num (h i List.mem_cons_self))]
    dsimp only
    rw [ih]
    rfl
theorem no_tin_str : ∀ ws : List (List Nat), (ws.map strD).any isTin = false
  | [] => rfl
  | w :: ws => no_tin_str ws
theorem strs_lc {i : mA} {env : Ev} {s : Tn} {is : List Int} (h1 : i env s = some (is.map .int, s)) (h : ∀ i ∈ is, Small i) (hv : ∀ d s1, mVar 5 ((wipeE env [5]).set 5 (some d)) s1 = some (d, s1)) (hl : is.length ≤ 1000) : mLc i (aName 5) [5] (mF dStr (mCons (mVar 5) mNil)) env s = some (.list ((is.map numW).map strD), s) :=
  lc_of h1 (strs_loop is h hv) (no_tin_str _) (by rw [List.length_map, List.length_map]; omega)
theorem addL {a b : List Dt} (h : a.length + b.length ≤ line) : dAdd (.list a) (.list b) = some (.list (a ++ b)) := by
  unfold dAdd
  dsimp only
  rw [if_pos h]
/-! the first row -/
abbrev bF : mS := mAsg (m2 dAdd (mVar 1) (mF dLst (mCons (mF dStr (mCons (m2 dIx (mVar 2) (mC (.int 0))) mNil)) (mCons (mF dStr (mCons (m2 dIx (mVar 2) (mC (.int 1))) mNil)) mNil)))) (aName 1)
theorem first_loop {sh : Dt} {s : Tn} : ∀ (ps : List Pr) (acc : Row) (x : Option Dt), (∀ p ∈ ps, Small p.1 ∧ Small p.2) → acc.length + 2 * ps.length ≤ 1000 →
    ∃ x', mForL (aName 2) bF (ps.map enc) [some sh, some (.list (acc.map strD)), x, none, none, none, none] s = some (.nx [some sh, some (.list ((acc ++ (numsP ps).map numW).map strD)), x', none, none, none, none], s)
  | [], acc, x, _, _ => ⟨x, by
    show some (Fl.nx _, s) = some (Fl.nx [some sh, some (.list ((acc ++ []).map strD)), x, none, none, none, none], s)
    rw [List.append_nil acc]⟩
  | p :: ps, acc, x, h, hl => by
    have hp := h p List.mem_cons_self
    rw [List.length_cons] at hl
    have b : bF [some sh, some (.list (acc.map strD)), some (enc p), none, none, none, none] s = some (.nx [some sh, some (.list ((acc ++ [numW p.1, numW p.2]).map strD)), some (enc p), none, none, none, none], s) := by
      refine mAsg_of (d := .list ((acc ++ [numW p.1, numW p.2]).map strD)) (m2_of (show mVar 1 _ _ = some (.list (acc.map strD), s) from rfl) (mF_of (mCons_of (mF_of (mCons_of (m2_of (show mVar 2 _ _ = some (enc p, s) from rfl) (show mC _ _ _ = some _ from rfl) (ix_enc0 p)) mNil_of) (str_num hp.1)) (mCons_of (mF_of (mCons_of (m2_of (show mVar 2 _ _ = some (enc p, s) from rfl) (show mC _ _ _ = some _ from rfl) (ix_enc1 p)) mNil_of) (str_num hp.2)) mNil_of)) (show dLst [.str (S (numW p.1)), .str (S (numW p.2))] = some (.list [.str (S (numW p.1)), .str (S (numW p.2))]) from rfl)) ?_) rfl
      rw [addL (by rw [List.length_map]; show _ + 2 ≤ 16777216; omega), List.map_append]
      rfl
    obtain ⟨x', ih⟩ := first_loop (sh := sh) (s := s) ps (acc ++ [numW p.1, numW p.2]) (some (enc p)) (fun z hz => h z (List.mem_cons_of_mem _ hz)) (by rw [List.length_append]; show acc.length + 2 + _ ≤ _; omega)
    refine ⟨x', ?_⟩
    show (match bF [some sh, some (.list (acc.map strD)), some (enc p), none, none, none, none] s with
      | some (.nx e, s2) => mForL (aName 2) bF (ps.map enc) e s2
      | some (.ct e, s2) => mForL (aName 2) bF (ps.map enc) e s2
      | some (.bk e, s2) => some (.nx e, s2)
      | some (.rt d, s2) => some (.rt d, s2)
      | none => none) = _
    rw [b]
    dsimp only
    rw [ih, List.append_assoc]
    rfl
/-! the edges' rows -/
abbrev bE : mX := mApp 3 (m2 dAdd (mF dLst (mCons (mC (.str ("edge" : Str))) mNil)) (mLc (iT (m2 dAdd (m2 dIx (mVar 4) (mC (.int 0))) (m2 dIx (mVar 4) (mC (.int 1))))) (aName 5) [5] (mF dStr (mCons (mVar 5) mNil))))
theorem ix_e0 (e : Ed) : dIx (enc2 e) (.int 0) = some (enc e.1) := rfl
theorem ix_e1 (e : Ed) : dIx (enc2 e) (.int 1) = some (enc e.2) := rfl
theorem add_ee (e : Ed) : dAdd (enc e.1) (enc e.2) = some (.tuple ((numsP [e.1, e.2]).map .int)) := by
  show (if 2 + 2 ≤ line then some (PyData.tuple ([.int e.1.1, .int e.1.2] ++ [.int e.2.1, .int e.2.2])) else none) = _
  rw [if_pos (by decide)]
  rfl
theorem iT_of {a : mE} {env : Ev} {s s1 : Tn} {ds : List Dt} (h : a env s = some (.tuple ds, s1)) : iT a env s = some (ds, s1) := by
  unfold iT
  rw [h]
theorem iL_of {a : mE} {env : Ev} {s s1 : Tn} {ds : List Dt} (h : a env s = some (.list ds, s1)) : iL a env s = some (ds, s1) := by
  unfold iL
  rw [h]
theorem edges_loop {sh y : Dt} {x : Option Dt} {s : Tn} : ∀ (es : List Ed) (acc : List Dt) (z : Option Dt), (∀ e ∈ es, ∀ p ∈ [e.1, e.2], Small p.1 ∧ Small p.2) → acc.length + es.length ≤ 1000 →
    ∃ z', mForLX (aName 4) bE (es.map enc2) [some sh, some y, x, some (opq 0), z, none, none] s [acc] = some (.fl (.nx [some sh, some y, x, some (opq 0), z', none, none]), s, [acc ++ (es.map edgeRow).map encRow])
  | [], acc, z, _, _ => ⟨z, by rw [List.map_nil, List.map_nil, List.map_nil, List.append_nil] <;> rfl⟩
  | e :: es, acc, z, h, hl => by
    rw [List.length_cons] at hl
    have he := h e List.mem_cons_self
    have b1 : m2 dAdd (mF dLst (mCons (mC (.str ("edge" : Str))) mNil)) (mLc (iT (m2 dAdd (m2 dIx (mVar 4) (mC (.int 0))) (m2 dIx (mVar 4) (mC (.int 1))))) (aName 5) [5] (mF dStr (mCons (mVar 5) mNil))) [some sh, some y, x, some (opq 0), some (enc2 e), none, none] s = some (encRow (edgeRow e), s) := by
      refine m2_of (show mF dLst _ _ _ = some (.list [.str ("edge" : Str)], s) from rfl) (strs_lc (is := numsP [e.1, e.2]) (iT_of (m2_of (m2_of (show mVar 4 _ _ = some (enc2 e, s) from rfl) (show mC _ _ _ = some _ from rfl) (ix_e0 e)) (m2_of (show mVar 4 _ _ = some (enc2 e, s) from rfl) (show mC _ _ _ = some _ from rfl) (ix_e1 e)) (add_ee e))) (small_nums he) (fun _ _ => rfl) (Nat.le_of_ble_eq_true rfl)) ?_
      rw [addL (Nat.le_of_ble_eq_true rfl), lit_edge]
      rfl
    have b2 : bE [some sh, some y, x, some (opq 0), some (enc2 e), none, none] s [acc] = some (.fl (.nx [some sh, some y, x, some (opq 0), some (enc2 e), none, none]), s, [acc ++ [encRow (edgeRow e)]]) := by
      have u : unq (opq 0) = some 0 := rfl
      show mApp _ _ _ _ _ = _
      unfold mApp
      simp only [List.getElem?_cons_zero, List.getElem?_cons_succ, u, List.set_cons_zero]
      rw [b1]
      dsimp only
      rw [if_pos ⟨by show _ < 16777216; omega, rfl⟩]
    obtain ⟨z', ih⟩ := edges_loop (sh := sh) (y := y) (x := x) (s := s) es (acc ++ [encRow (edgeRow e)]) (some (enc2 e)) (fun q hq => h q (List.mem_cons_of_mem _ hq)) (by rw [List.length_append, List.length_singleton]; omega)
    refine ⟨z', ?_⟩
    show mForLX (aName 4) bE (enc2 e :: es.map enc2) _ _ _ = _
    rw [for_nx rfl b2, ih, List.append_assoc]
    rfl
/-! the turns' rows -/
abbrev bH : mE := m2 dAdd (mF dLst (mCons (mC (.str ("turn" : Str))) mNil)) (mLc (iT (mVar 6)) (aName 5) [5] (mF dStr (mCons (mVar 5) mNil)))
theorem turns_loop {sh y : Dt} {x z w : Option Dt} {s : Tn} : ∀ (hs : List Pr), (∀ h ∈ hs, Small h.1 ∧ Small h.2) → mLcL (aName 6) [6] bH (hs.map enc) [some sh, some y, x, w, z, none, none] s = some ((hs.map halfRow).map encRow, s)
  | [], _ => rfl
  | h :: hs, hh => by
    have ih := turns_loop (sh := sh) (y := y) (x := x) (z := z) (w := w) (s := s) hs fun q hq => hh q (List.mem_cons_of_mem _ hq)
    have b1 : bH [some sh, some y, x, w, z, none, some (enc h)] s = some (encRow (halfRow h), s) := by
      refine m2_of (show mF dLst _ _ _ = some (.list [.str ("turn" : Str)], s) from rfl) (strs_lc (is := numsP [h]) (iT_of (show mVar 6 _ _ = some (enc h, s) from rfl)) (small_nums fun q hq => by
        cases List.mem_singleton.mp hq
        exact hh h List.mem_cons_self) (fun _ _ => rfl) (Nat.le_of_ble_eq_true rfl)) ?_
      rw [addL (Nat.le_of_ble_eq_true rfl), lit_turn]
      rfl
    show (match bH [some sh, some y, x, w, z, none, some (enc h)] s with
      | none => none
      | some (q, s1) => match mLcL (aName 6) [6] bH (hs.map enc) [some sh, some y, x, w, z, none, none] s1 with
        | none => none
        | some (zs, s2) => some (q :: zs, s2)) = _
    rw [b1]
    dsimp only
    rw [ih]
    rfl
def rowsSh (ps : List Pr) (es : List Ed) (hs : List Pr) : List Row := fieldRow ps :: (es.map edgeRow ++ hs.map halfRow)
theorem mForX_of {i : mA} {g : Dt → Ev → Option Ev} {t : mX} {env : Ev} {s s1 : Tn} {O : Ow} {ds : List Dt} (h : i env s = some (ds, s1)) : mForX i g t env s O = mForLX g t ds env s1 O := by
  unfold mForX
  rw [h]
theorem no_tin_row : ∀ rs : List Row, (rs.map encRow).any isTin = false
  | [] => rfl
  | r :: rs => no_tin_row rs
theorem rows_sh {ps : List Pr} {es : List Ed} {hs : List Pr} (W : Sheet ps es hs) (s : Tn) : m_law_sheet_rows [.tuple [.tuple (ps.map enc), .tuple (es.map enc2), .tuple (hs.map enc)]] s = some (.list ((rowsSh ps es hs).map encRow), s) := by
  have hel := W.el
  have hhl := W.hl
  have hpl := W.f.len
  obtain ⟨x', h1⟩ := first_loop (sh := .tuple [.tuple (ps.map enc), .tuple (es.map enc2), .tuple (hs.map enc)]) (s := s) ps [fieldN] none W.f.small (by show 1 + _ ≤ _; omega)
  obtain ⟨z', h2⟩ := edges_loop (sh := .tuple [.tuple (ps.map enc), .tuple (es.map enc2), .tuple (hs.map enc)]) (y := encRow (fieldRow ps)) (x := x') (s := s) es [encRow (fieldRow ps)] none (fun e he => (W.e e he).small) (by show 1 + _ ≤ _; omega)
  have h3 := turns_loop (sh := .tuple [.tuple (ps.map enc), .tuple (es.map enc2), .tuple (hs.map enc)]) (y := encRow (fieldRow ps)) (x := x'.map (thawD [[encRow (fieldRow ps)] ++ (es.map edgeRow).map encRow])) (z := z'.map (thawD [[encRow (fieldRow ps)] ++ (es.map edgeRow).map encRow])) (w := some (.list ([encRow (fieldRow ps)] ++ (es.map edgeRow).map encRow))) (s := s) hs (fun h hh => (W.h h hh).small h List.mem_cons_self)
  have p1 : mUp (mAsg (mF dLst (mCons (mC (.str ("field" : Str))) mNil)) (aName 1)) (initE 7 [.tuple [.tuple (ps.map enc), .tuple (es.map enc2), .tuple (hs.map enc)]]) s [] = some (.fl (.nx [some (.tuple [.tuple (ps.map enc), .tuple (es.map enc2), .tuple (hs.map enc)]), some (.list ([fieldN].map strD)), none, none, none, none, none]), s, []) := by
    rw [lit_field]
    rfl
  have p2 : mUp (mFor (iT (m2 dIx (mVar 0) (mC (.int 0)))) (aName 2) bF) [some (.tuple [.tuple (ps.map enc), .tuple (es.map enc2), .tuple (hs.map enc)]), some (.list ([fieldN].map strD)), none, none, none, none, none] s [] = some (.fl (.nx [some (.tuple [.tuple (ps.map enc), .tuple (es.map enc2), .tuple (hs.map enc)]), some (encRow (fieldRow ps)), x', none, none, none, none]), s, []) := by
    unfold mUp mFor
    rw [show iT (m2 dIx (mVar 0) (mC (.int 0))) _ _ = some (ps.map enc, s) from rfl]
    dsimp only
    rw [h1]
    rfl
  have p3 : mSetX 3 (mNewL (mCons (mVar 1) mNil)) [some (.tuple [.tuple (ps.map enc), .tuple (es.map enc2), .tuple (hs.map enc)]), some (encRow (fieldRow ps)), x', none, none, none, none] s [] = some (.fl (.nx [some (.tuple [.tuple (ps.map enc), .tuple (es.map enc2), .tuple (hs.map enc)]), some (encRow (fieldRow ps)), x', some (opq 0), none, none, none]), s, [[encRow (fieldRow ps)]]) := rfl
  have p4 := (mForX_of (i := iT (m2 dIx (mVar 0) (mC (.int 1)))) (g := aName 4) (t := bE) (O := [[encRow (fieldRow ps)]]) (show iT (m2 dIx (mVar 0) (mC (.int 1))) [some (.tuple [.tuple (ps.map enc), .tuple (es.map enc2), .tuple (hs.map enc)]), some (encRow (fieldRow ps)), x', some (opq 0), none, none, none] s = some (es.map enc2, s) from rfl)).trans h2
  have p5 : mRetT (m2 dAdd (mVar 3) (mLc (iT (m2 dIx (mVar 0) (mC (.int 2)))) (aName 6) [6] bH)) [some (.tuple [.tuple (ps.map enc), .tuple (es.map enc2), .tuple (hs.map enc)]), some (encRow (fieldRow ps)), x', some (opq 0), z', none, none] s [[encRow (fieldRow ps)] ++ (es.map edgeRow).map encRow] = some (.fl (.rt (.list ((rowsSh ps es hs).map encRow))), s, []) := by
    have q1 : thaw [[encRow (fieldRow ps)] ++ (es.map edgeRow).map encRow] [some (.tuple [.tuple (ps.map enc), .tuple (es.map enc2), .tuple (hs.map enc)]), some (encRow (fieldRow ps)), x', some (opq 0), z', none, none] = [some (.tuple [.tuple (ps.map enc), .tuple (es.map enc2), .tuple (hs.map enc)]), some (encRow (fieldRow ps)), x'.map (thawD [[encRow (fieldRow ps)] ++ (es.map edgeRow).map encRow]), some (.list ([encRow (fieldRow ps)] ++ (es.map edgeRow).map encRow)), z'.map (thawD [[encRow (fieldRow ps)] ++ (es.map edgeRow).map encRow]), none, none] := rfl
    unfold mRetT
    rw [q1, m2_of (show mVar 3 _ _ = some (.list ([encRow (fieldRow ps)] ++ (es.map edgeRow).map encRow), s) from rfl) (lc_of (show iT (m2 dIx (mVar 0) (mC (.int 2))) _ _ = some (hs.map enc, s) from rfl) h3 (no_tin_row _) (by rw [List.length_map, List.length_map]; omega)) (addL (by
      rw [List.length_append, List.length_map, List.length_map, List.length_map, List.length_map]
      show 1 + _ + _ ≤ 16777216
      omega))]
    show some (Fx.fl (.rt (.list (([encRow (fieldRow ps)] ++ (es.map edgeRow).map encRow) ++ (hs.map halfRow).map encRow))), s, []) = _
    unfold rowsSh
    rw [List.map_cons, List.map_append, List.append_assoc]
    rfl
  unfold m_law_sheet_rows mFnL mFnX
  rw [if_pos ⟨rfl, rfl⟩, show c_law_sheet_rows _ _ _ = _ from (mSeqX_nx p1).trans ((mSeqX_nx p2).trans ((mSeqX_nx p3).trans ((mSeqX_nx p4).trans p5)))]
  rfl
end Md
-- My19
set_option Elab.async false
set_option linter.all false
set_option maxRecDepth 100000
set_option maxHeartbeats 4000000
/-! same of alike; heard. -/
namespace Md
open PySem PySem.Spec PyProof.Rows L2
open _root_.SX (S)
set_option autoImplicit false
inductive Pl : Nat → Dt → Prop
  | int (n : Nat) (i : Int) : Pl n (.int i)
  | tru (n : Nat) : Pl n (.bool true)
  | lst {n : Nat} {ds : List Dt} : (∀ d ∈ ds, Pl n d) → ds.length ≤ 1000 → Pl (n + 1) (.list ds)
  | tup {n : Nat} {ds : List Dt} : (∀ d ∈ ds, Pl n d) → ds.length ≤ 1000 → Pl (n + 1) (.tuple ds)
theorem mVand_t {a b : mE} {env : Ev} {s s1 : Tn} (h : a env s = some (.bool true, s1)) : mVand a b env s = b env s1 := by
  unfold mVand
  rw [h]
theorem zip_self : ∀ (ds : List Dt), zipD ds ds = ds.map fun d => .tuple [d, d]
  | [] => rfl
  | d :: ds => by
    show PyData.tuple [d, d] :: zipD ds ds = _
    rw [zip_self ds]
    rfl
theorem bools_true : ∀ ds : List Dt, bools? (ds.map fun _ => PyData.bool true) = some (ds.map fun _ => true)
  | [] => rfl
  | d :: ds => by
    show (match bools? (ds.map fun _ => PyData.bool true) with
      | some l => some (true :: l)
      | none => none) = _
    rw [bools_true ds]
    rfl
theorem all_true : ∀ ds : List Dt, (ds.map fun _ => true).all id = true
  | [] => rfl
  | _ :: ds => all_true ds
theorem dAll_true (ds : List Dt) : dAll [.list (ds.map fun _ => PyData.bool true)] = some (.bool true) := by
  unfold dAll
  dsimp only
  rw [bools_true]
  dsimp only
  rw [all_true]
theorem same_zip {f : Mf} {ds : List Dt} {a b : Dt} {s : Tn} (h : ∀ d ∈ ds, f [d, d] s = some (.bool true, s)) : mLcL (aTup 2 (aCons (aName 2) (aCons (aName 3) aNil))) [2, 3] (mCall f (mCons (mVar 2) (mCons (mVar 3) mNil))) (zipD ds ds) [some a, some b, none, none] s = some (ds.map fun _ => .bool true, s) := by
  rw [zip_self]
  have e := lcL_map (g := aTup 2 (aCons (aName 2) (aCons (aName 3) aNil))) (vs := [2, 3]) (t := mCall f (mCons (mVar 2) (mCons (mVar 3) mNil))) (env := [some a, some b, none, none]) (s := s) (fun _ => .bool true) (ds.map fun d => .tuple [d, d]) fun z hz => by
    obtain ⟨d, hd, rfl⟩ := List.mem_map.mp hz
    exact ⟨[some a, some b, some d, some d], rfl, h d hd⟩
  rw [e, List.map_map]
  rfl
theorem true_tin : ∀ ds : List Dt, (ds.map fun _ => PyData.bool true).any isTin = false
  | [] => rfl
  | _ :: ds => true_tin ds
theorem len_eq (n : Nat) : dEq (.int (n : Int)) (.int (n : Int)) = some (.bool true) := by
  show some (PyData.bool (decide ((n : Int) = (n : Int)))) = _
  rw [decide_eq_true rfl]
theorem same_refl : ∀ (n : Nat) (d : Dt) (s : Tn), Pl n d → m_law_same (n + 1) [d, d] s = some (.bool true, s) := by
  intro n
  induction n with
  | zero =>
    intro d s h
    cases h with
    | int _ i =>
      refine mFn_of rfl ?_
      refine (mSeq_nx ((mIfS_f (show mT (m1 dIsSeq (mVar 1)) _ _ = some (false, s) from rfl)).trans rfl)).trans ?_
      refine (mSeq_nx ((mIfS_f (show mBor _ _ _ _ = some (false, s) from rfl)).trans rfl)).trans (mRet_of ?_)
      exact (mVand_t (show m1 dIsInt (mVar 0) _ _ = some (.bool true, s) from rfl)).trans ((mVand_t (show m1 dNot (m1 dIsBool (mVar 0)) _ _ = some (.bool true, s) from rfl)).trans (m2_of (show mVar 0 _ _ = some (.int i, s) from rfl) (show mVar 1 _ _ = some (.int i, s) from rfl) (by
        show some (PyData.bool (decide (i = i))) = _
        rw [decide_eq_true rfl])))
    | tru => rfl
  | succ n ih =>
    intro d s h
    cases h with
    | int _ i =>
      refine mFn_of rfl ?_
      refine (mSeq_nx ((mIfS_f (show mT (m1 dIsSeq (mVar 1)) _ _ = some (false, s) from rfl)).trans rfl)).trans ?_
      refine (mSeq_nx ((mIfS_f (show mBor _ _ _ _ = some (false, s) from rfl)).trans rfl)).trans (mRet_of ?_)
      exact (mVand_t (show m1 dIsInt (mVar 0) _ _ = some (.bool true, s) from rfl)).trans ((mVand_t (show m1 dNot (m1 dIsBool (mVar 0)) _ _ = some (.bool true, s) from rfl)).trans (m2_of (show mVar 0 _ _ = some (.int i, s) from rfl) (show mVar 1 _ _ = some (.int i, s) from rfl) (by
        show some (PyData.bool (decide (i = i))) = _
        rw [decide_eq_true rfl])))
    | tru => rfl
    | @lst _ ds hd hl =>
      refine mFn_of rfl ?_
      refine mSeq_rt ((mIfS_t (show mT (m1 dIsSeq (mVar 1)) _ _ = some (true, s) from rfl)).trans ((mSeq_nx ((mIfS_f (show mBor _ _ _ _ = some (false, s) from rfl)).trans rfl)).trans (mRet_of ?_)))
      refine (mVand_t (m2_of (show mF dLen (mCons (mVar 0) mNil) _ _ = some (.int (ds.length : Int), s) from rfl) (show mF dLen (mCons (mVar 1) mNil) _ _ = some (.int (ds.length : Int), s) from rfl) (len_eq _))).trans ?_
      exact mF_of (mCons_of (lc_of (show iZp _ _ _ = some (zipD ds ds, s) from rfl) (same_zip fun d hm => ih d s (hd d hm)) (true_tin ds) (by rw [List.length_map]; omega)) mNil_of) (dAll_true ds)
    | @tup _ ds hd hl =>
      refine mFn_of rfl ?_
      refine mSeq_rt ((mIfS_t (show mT (m1 dIsSeq (mVar 1)) _ _ = some (true, s) from rfl)).trans ((mSeq_nx ((mIfS_f (show mBor _ _ _ _ = some (false, s) from rfl)).trans rfl)).trans (mRet_of ?_)))
      refine (mVand_t (m2_of (show mF dLen (mCons (mVar 0) mNil) _ _ = some (.int (ds.length : Int), s) from rfl) (show mF dLen (mCons (mVar 1) mNil) _ _ = some (.int (ds.length : Int), s) from rfl) (len_eq _))).trans ?_
      exact mF_of (mCons_of (lc_of (show iZp _ _ _ = some (zipD ds ds, s) from rfl) (same_zip fun d hm => ih d s (hd d hm)) (true_tin ds) (by rw [List.length_map]; omega)) mNil_of) (dAll_true ds)
theorem pl_up {n : Nat} {d : Dt} (h : Pl n d) : Pl (n + 1) d := by
  induction h with
  | int n i => exact .int _ i
  | tru n => exact .tru _
  | lst _ hl ih => exact .lst ih hl
  | tup _ hl ih => exact .tup ih hl
theorem pl_le {n : Nat} {d : Dt} (h : Pl n d) : ∀ k, Pl (n + k) d
  | 0 => h
  | k + 1 => pl_up (pl_le h k)
theorem same8 {d : Dt} (h : Pl 3 d) (s : Tn) : m_law_same 8 [d, d] s = some (.bool true, s) := same_refl 7 d s (pl_le h 4)
theorem pl_due (i : Int) : Pl 3 (.list [.int i, .bool true]) := .lst (fun d hd => by
  rcases List.mem_cons.mp hd with rfl | hd
  · exact .int _ _
  · cases List.mem_singleton.mp hd
    exact .tru _) (Nat.le_of_ble_eq_true rfl)
theorem pl_enc (p : Pr) : Pl 1 (enc p) := .tup (fun d hd => by
  rcases List.mem_cons.mp hd with rfl | hd
  · exact .int _ _
  · cases List.mem_singleton.mp hd
    exact .int _ _) (Nat.le_of_ble_eq_true rfl)
theorem pl_enc2 (e : Ed) : Pl 2 (enc2 e) := .tup (fun d hd => by
  rcases List.mem_cons.mp hd with rfl | hd
  · exact pl_enc _
  · cases List.mem_singleton.mp hd
    exact pl_enc _) (Nat.le_of_ble_eq_true rfl)
theorem pl_sheet {ps hs : List Pr} {es : List Ed} (h1 : ps.length ≤ 1000) (h2 : es.length ≤ 1000) (h3 : hs.length ≤ 1000) : Pl 4 (.tuple [.tuple (ps.map enc), .tuple (es.map enc2), .tuple (hs.map enc)]) := by
  have a : ∀ qs : List Pr, qs.length ≤ 1000 → Pl 3 (.tuple (qs.map enc)) := fun qs hq => .tup (fun d hd => by
    obtain ⟨p, _, rfl⟩ := List.mem_map.mp hd
    exact pl_up (pl_enc p)) (by rw [List.length_map]; exact hq)
  refine .tup (fun d hd => ?_) (Nat.le_of_ble_eq_true rfl)
  rcases List.mem_cons.mp hd with rfl | hd
  · exact a ps h1
  rcases List.mem_cons.mp hd with rfl | hd
  · exact .tup (fun d hd => by
      obtain ⟨p, _, rfl⟩ := List.mem_map.mp hd
      exact pl_enc2 p) (by rw [List.length_map]; exact h2)
  · cases List.mem_singleton.mp hd
    exact a hs h3
theorem same8' {d : Dt} (h : Pl 4 d) (s : Tn) : m_law_same 8 [d, d] s = some (.bool true, s) := same_refl 7 d s (pl_le h 3)
theorem heard_ex {x : Str} {i : Int} {s : Tn} (h : m_read_sheet [.str x] s = some (.inr i, s)) : m_law_heard [.str x] s = some (.list [.int i, .bool true], s) := by
  unfold m_law_heard
  dsimp only
  rw [h]
theorem heard_in {x : Str} {d : Dt} {s : Tn} (h : m_read_sheet [.str x] s = some (.inl d, s)) : m_law_heard [.str x] s = some (d, s) := by
  unfold m_law_heard
  dsimp only
  rw [h]
end Md
-- My20
set_option Elab.async false
set_option linter.all false
set_option maxRecDepth 100000
set_option maxHeartbeats 4000000
/-! Bent rows; the four texts read. -/
namespace Md
open PySem PySem.Spec PyProof.Rows L2
open _root_.SX (S)
set_option autoImplicit false
theorem word_field : WordOk fieldN := ⟨by decide, by decide +kernel, by decide⟩
theorem word_edge : WordOk edgeN := ⟨by decide, by decide +kernel, by decide⟩
theorem word_turn : WordOk turnN := ⟨by decide, by decide +kernel, by decide⟩
structure GoodRow (r : Row) : Prop where
  ex : ∃ nm qs, r = nm :: (numsP qs).map numW ∧ WordOk nm ∧ (∀ q ∈ qs, Small q.1 ∧ Small q.2) ∧ qs ≠ [] ∧ qs.length ≤ 6
theorem GoodRow.ok {r : Row} (g : GoodRow r) : RowOk r := by
  obtain ⟨nm, qs, rfl, h1, h2, h3, h4⟩ := g.ex
  refine ⟨by simp, by rw [List.length_cons, List.length_map, numsP_len]; omega, fun w hw => ?_⟩
  rcases List.mem_cons.mp hw with rfl | hw
  · exact h1
  · exact wordok_nums h2 w hw
theorem rows_good {ps hs : List Pr} {es : List Ed} (W : Sheet ps es hs) : ∀ r ∈ rowsSh ps es hs, GoodRow r := fun r hr => by
  rcases List.mem_cons.mp hr with rfl | hr
  · exact ⟨fieldN, ps, rfl, word_field, W.f.small, W.f.ne, W.f.len⟩
  · rcases List.mem_append.mp hr with hr | hr
    · obtain ⟨e, he, rfl⟩ := List.mem_map.mp hr
      exact ⟨edgeN, [e.1, e.2], rfl, word_edge, (W.e e he).small, by simp, Nat.le_of_ble_eq_true rfl⟩
    · obtain ⟨h, hh, rfl⟩ := List.mem_map.mp hr
      exact ⟨turnN, [h], rfl, word_turn, (W.h h hh).small, by simp, Nat.le_of_ble_eq_true rfl⟩
def bend (k : Int) (r : Row) : Row := if k = 0 then r ++ [numW 7] else if k = 1 then r.dropLast else r.tail
theorem small7 : Small 7 := by unfold Small; omega
theorem bend_bad {r : Row} (g : GoodRow r) (k : Int) : BadRow (bend k r) := by
  obtain ⟨nm, qs, rfl, h1, h2, h3, h4⟩ := g.ex
  have hl : ((numsP qs).map numW).length = 2 * qs.length := by rw [List.length_map, numsP_len]
  have hq : 1 ≤ qs.length := List.length_pos_iff.mpr h3
  have hne : (numsP qs).map numW ≠ [] := fun z => by
    rw [z] at hl
    rw [List.length_nil] at hl
    omega
  unfold bend
  split
  · refine ⟨nm, (numsP qs).map numW ++ [numW 7], rfl, fun w hw => ?_, by rw [List.length_append, hl, List.length_singleton]; omega, by rw [List.length_append, hl, List.length_singleton]; omega⟩
    rcases List.mem_append.mp hw with hw | hw
    · exact numok_nums h2 w hw
    · rw [List.mem_singleton.mp hw]
      exact numok_num small7
  · split
    · refine ⟨nm, ((numsP qs).map numW).dropLast, ?_, fun w hw => numok_nums h2 w ((List.dropLast_sublist _).subset hw), by rw [List.length_dropLast, hl]; omega, by rw [List.length_dropLast, hl]; omega⟩
      rw [List.dropLast_cons_of_ne_nil hne]
    · show BadRow ((numsP qs).map numW)
      cases hz : (numsP qs).map numW with
      | nil => exact absurd hz hne
      | cons w ws =>
        rw [hz, List.length_cons] at hl
        refine ⟨w, ws, rfl, fun x hx => numok_nums h2 x (by rw [hz]; exact List.mem_cons_of_mem _ hx), by omega, by omega⟩
theorem bend_ok {r : Row} (g : GoodRow r) (k : Int) : RowOk (bend k r) := by
  have hb := (bend_bad g k).ex
  obtain ⟨nm, qs, rfl, h1, h2, h3, h4⟩ := g.ex
  have hl : ((numsP qs).map numW).length = 2 * qs.length := by rw [List.length_map, numsP_len]
  have hw : ∀ w ∈ nm :: (numsP qs).map numW, WordOk w := fun w hw => by
    rcases List.mem_cons.mp hw with rfl | hw
    · exact h1
    · exact wordok_nums h2 w hw
  obtain ⟨w0, ws, e, _, _, _⟩ := hb
  refine ⟨fun z => (by rw [z] at e; cases e), ?_, fun w hm => ?_⟩
  · unfold bend
    split
    · rw [List.length_append, List.length_cons, hl, List.length_singleton]
      omega
    · split
      · rw [List.length_dropLast, List.length_cons, hl]
        omega
      · show ((numsP qs).map numW).length ≤ 16
        rw [hl]
        omega
  · unfold bend at hm
    split at hm
    · rcases List.mem_append.mp hm with hm | hm
      · exact hw w hm
      · rw [List.mem_singleton.mp hm]
        exact num_word small7
    · split at hm
      · exact hw w ((List.dropLast_sublist _).subset hm)
      · exact hw w (List.mem_of_mem_tail hm)
/-! reading -/
def bodySh (es : List Ed) (hs : List Pr) : List Row := es.map edgeRow ++ hs.map halfRow
theorem body_take (es : List Ed) (hs : List Pr) (j : Nat) : (bodySh es hs).take j = (es.take j).map edgeRow ++ (hs.take (j - es.length)).map halfRow := by
  unfold bodySh
  rw [List.take_append, List.length_map, List.map_take, List.map_take]
theorem len_split {α : Type} {l : List α} {j n : Nat} (h : l.length = j + n) : ∃ a b, l = a ++ b ∧ a.length = j ∧ b.length = n := ⟨l.take j, l.drop j, (List.take_append_drop j l).symm, by rw [List.length_take]; omega, by rw [List.length_drop]; omega⟩
theorem loop_prefix {ps hs : List Pr} {es : List Ed} (W : Sheet ps es hs) {tx : Str} {rw fs rest : List Dt} {s : Tn} {a b c : Option Dt} (j : Nat) {ks : List Int} (hk : ks.length = ((bodySh es hs).take j).length) :
    ∃ a' b' c', mForLX gR bR (rowsD ks ((bodySh es hs).take j) ++ rest) (envR tx rw fs a b c) s [[], []] = mForLX gR bR rest (envR tx rw fs a' b' c') s [(es.take j).map enc2, (hs.take (j - es.length)).map enc] := by
  have hel := W.el
  have hhl := W.hl
  rw [body_take, List.length_append, List.length_map, List.length_map] at hk
  obtain ⟨k1, k2, rfl, l1, l2⟩ := len_split hk
  have e1 : (es.take j).length ≤ es.length := by rw [List.length_take]; omega
  have e2 : (hs.take (j - es.length)).length ≤ hs.length := by rw [List.length_take]; omega
  obtain ⟨a1, b1, c1, h1⟩ := loop_edges (tx := tx) (rw := rw) (fs := fs) (s := s) (rest := rowsD k2 ((hs.take (j - es.length)).map halfRow) ++ rest) (es.take j) k1 [] a b c l1 (by
    rw [List.nil_append]
    exact W.so.sublist (List.take_sublist j es)) (fun e he => W.e e (List.mem_of_mem_take he)) (by show 0 + _ < 16777216; omega)
  obtain ⟨a2, b2, c2, h2⟩ := loop_turns (tx := tx) (rw := rw) (fs := fs) (s := s) (E := (es.take j).map enc2) (rest := rest) (hs.take (j - es.length)) k2 [] a1 b1 c1 l2 (fun h hh => W.h h (List.mem_of_mem_take hh)) (by show 0 + _ < 16777216; omega)
  refine ⟨a2, b2, c2, ?_⟩
  rw [body_take, rowsD_app _ _ _ _ (by rw [List.length_map]; exact l1), List.append_assoc]
  exact h1.trans h2
theorem Wide.got {rs : List Row} {text : List Nat} {nums : List Int} {ls : List Li} {e : List Nat} (W : Wide rs text nums ls e) (hl : rs.length ≤ 20) (s : Tn) : m_rows_of_pieces [.str (S text)] s = some (.inl (.list (rowsD nums rs)), s) := by
  rw [W.read hl s, zipR_D]
theorem read_bent {ps hs : List Pr} {es : List Ed} (Sh : Sheet ps es hs) {b : Row} (hb : BadRow b) {k : Nat} (hk : k < (rowsSh ps es hs).length) {rest : List Row} {text : List Nat} {nums : List Int} {ls : List Li} {e : List Nat} (W : Wide ((rowsSh ps es hs).take k ++ b :: rest) text nums ls e) (hl : ((rowsSh ps es hs).take k ++ b :: rest).length ≤ 20) (s : Tn) :
    ∃ i, nums[k]? = some i ∧ m_read_sheet [.str (S text)] s = some (.inr i, s) := by
  have hr := W.got hl s
  have hn := W.len
  cases k with
  | zero =>
    rw [List.take_zero, List.nil_append] at hr hn
    cases nums with
    | nil => cases hn
    | cons n0 ns =>
      exact ⟨n0, rfl, read_nofield hr (hb.pairs fieldN s)⟩
  | succ j =>
    have ht : (rowsSh ps es hs).take (j + 1) = fieldRow ps :: (bodySh es hs).take j := rfl
    rw [ht] at hr hn
    cases nums with
    | nil => cases hn
    | cons n0 ns =>
      have hn1 : ns.length = ((bodySh es hs).take j).length + (rest.length + 1) := by
        rw [List.cons_append, List.length_cons, List.length_cons, List.length_append, List.length_cons] at hn
        omega
      obtain ⟨k1, k2, rfl, l1, l2⟩ := len_split hn1
      cases k2 with
      | nil => cases l2
      | cons i k3 =>
        have hj : ((bodySh es hs).take j).length = j := by
          rw [List.length_take]
          have : (rowsSh ps es hs).length = (bodySh es hs).length + 1 := rfl
          omega
        have hr2 : m_rows_of_pieces [.str (S text)] s = some (.inl (.list (rowD n0 (fieldRow ps) :: (rowsD k1 ((bodySh es hs).take j) ++ rowD i b :: rowsD k3 rest))), s) := by
          rw [hr]
          show some ((Sum.inl (.list (rowD n0 (fieldRow ps) :: rowsD (k1 ++ i :: k3) ((bodySh es hs).take j ++ b :: rest))) : Dt ⊕ Int), s) = _
          rw [rowsD_app _ _ _ _ l1]
          rfl
        refine ⟨i, ?_, read_raises hr2 Sh.f ?_⟩
        · show (k1 ++ i :: k3)[j]? = some i
          rw [List.getElem?_append_right (by omega), l1, hj, Nat.sub_self]
          rfl
        · obtain ⟨a', b', c', h1⟩ := loop_prefix Sh (tx := S text) (rw := rowD n0 (fieldRow ps) :: (rowsD k1 ((bodySh es hs).take j) ++ rowD i b :: rowsD k3 rest)) (fs := ps.map enc) (rest := rowD i b :: rowsD k3 rest) (s := s) (a := none) (b := none) (c := none) j l1
          obtain ⟨O, h2⟩ := loop_bad (tx := S text) (rw := rowD n0 (fieldRow ps) :: (rowsD k1 ((bodySh es hs).take j) ++ rowD i b :: rowsD k3 rest)) (fs := ps.map enc) (E := (es.take j).map enc2) (Pl := (hs.take (j - es.length)).map enc) (s := s) (rest := rowsD k3 rest) (k := i) (a := a') (b := b') (c := c') hb (by
            have := Sh.el
            rw [List.length_map, List.length_take]
            show _ < 16777216
            omega) (by
            have := Sh.hl
            rw [List.length_map, List.length_take]
            show _ < 16777216
            omega)
          exact ⟨O, h1.trans h2⟩
theorem read_cut {ps hs : List Pr} {es : List Ed} (Sh : Sheet ps es hs) {j : Nat} (hj : j ≤ (bodySh es hs).length) {text : List Nat} {nums : List Int} {ls : List Li} {e : List Nat} (W : Wide ((rowsSh ps es hs).take (j + 1)) text nums ls e) (hl : ((rowsSh ps es hs).take (j + 1)).length ≤ 20) (s : Tn) :
    m_read_sheet [.str (S text)] s = some (.inl (.tuple [.tuple (ps.map enc), .tuple ((es.take j).map enc2), .tuple ((hs.take (j - es.length)).map enc)]), s) := by
  have hr := W.got hl s
  have hn := W.len
  have ht : (rowsSh ps es hs).take (j + 1) = fieldRow ps :: (bodySh es hs).take j := rfl
  rw [ht] at hr hn
  cases nums with
  | nil => cases hn
  | cons n0 ns =>
    have hn1 : ns.length = ((bodySh es hs).take j).length := by simpa using hn
    have hr2 : m_rows_of_pieces [.str (S text)] s = some (.inl (.list (rowD n0 (fieldRow ps) :: (rowsD ns ((bodySh es hs).take j) ++ []))), s) := by
      rw [hr, List.append_nil]
      rfl
    obtain ⟨a', b', c', h1⟩ := loop_prefix Sh (tx := S text) (rw := rowD n0 (fieldRow ps) :: (rowsD ns ((bodySh es hs).take j) ++ [])) (fs := ps.map enc) (rest := []) (s := s) (a := none) (b := none) (c := none) j hn1
    exact read_ends hr2 Sh.f h1
theorem read_double {ps hs : List Pr} {es : List Ed} (Sh : Sheet ps es hs) {j : Nat} (hj : j ≤ es.length) {rest : List Row} {r : Row} (hrr : (rowsSh ps es hs)[j]? = some r) {text : List Nat} {nums : List Int} {ls : List Li} {e : List Nat} (W : Wide ((rowsSh ps es hs).take (j + 1) ++ r :: rest) text nums ls e) (hl : ((rowsSh ps es hs).take (j + 1) ++ r :: rest).length ≤ 20) (s : Tn) :
    ∃ i, nums[j + 1]? = some i ∧ m_read_sheet [.str (S text)] s = some (.inr i, s) := by
  have hr := W.got hl s
  have hn := W.len
  have ht : (rowsSh ps es hs).take (j + 1) = fieldRow ps :: (bodySh es hs).take j := rfl
  rw [ht] at hr hn
  have hjb : j ≤ (bodySh es hs).length := by
    unfold bodySh
    rw [List.length_append, List.length_map]
    omega
  have hjl : ((bodySh es hs).take j).length = j := by
    rw [List.length_take]
    omega
  cases nums with
  | nil => cases hn
  | cons n0 ns =>
    have hn1 : ns.length = ((bodySh es hs).take j).length + (rest.length + 1) := by
      rw [List.cons_append, List.length_cons, List.length_cons, List.length_append, List.length_cons] at hn
      omega
    obtain ⟨k1, k2, rfl, l1, l2⟩ := len_split hn1
    cases k2 with
    | nil => cases l2
    | cons i k3 =>
      have hr2 : m_rows_of_pieces [.str (S text)] s = some (.inl (.list (rowD n0 (fieldRow ps) :: (rowsD k1 ((bodySh es hs).take j) ++ rowD i r :: rowsD k3 rest))), s) := by
        rw [hr]
        show some ((Sum.inl (.list (rowD n0 (fieldRow ps) :: rowsD (k1 ++ i :: k3) ((bodySh es hs).take j ++ r :: rest))) : Dt ⊕ Int), s) = _
        rw [rowsD_app _ _ _ _ l1]
        rfl
      refine ⟨i, ?_, read_raises hr2 Sh.f ?_⟩
      · show (k1 ++ i :: k3)[j]? = some i
        rw [List.getElem?_append_right (by omega), l1, hjl, Nat.sub_self]
        rfl
      · obtain ⟨a', b', c', h1⟩ := loop_prefix Sh (tx := S text) (rw := rowD n0 (fieldRow ps) :: (rowsD k1 ((bodySh es hs).take j) ++ rowD i r :: rowsD k3 rest)) (fs := ps.map enc) (rest := rowD i r :: rowsD k3 rest) (s := s) (a := none) (b := none) (c := none) j l1
        have h0 : hs.take (j - es.length) = [] := by
          rw [show j - es.length = 0 by omega]
          rfl
        rw [h0] at h1
        cases j with
        | zero =>
          cases hrr
          obtain ⟨O, h2⟩ := loop_field (tx := S text) (rw := rowD n0 (fieldRow ps) :: (rowsD k1 ((bodySh es hs).take 0) ++ rowD i (fieldRow ps) :: rowsD k3 rest)) (fs := ps.map enc) (E := (es.take 0).map enc2) (Pl := []) (s := s) (rest := rowsD k3 rest) (k := i) (a := a') (b := b') (c := c') Sh.f.small (by have := Sh.f.len; omega) (by decide)
          exact ⟨O, h1.trans h2⟩
        | succ m =>
          have hm : m < es.length := by omega
          have hre : r = edgeRow es[m] := by
            have : (rowsSh ps es hs)[m + 1]? = some (edgeRow es[m]) := by
              show (es.map edgeRow ++ hs.map halfRow)[m]? = _
              rw [List.getElem?_append_left (by rw [List.length_map]; exact hm), List.getElem?_map, List.getElem?_eq_getElem hm]
              rfl
            rw [hrr] at this
            exact Option.some.inj this
          have htk : es.take (m + 1) = es.take m ++ [es[m]] := (List.take_append_getElem hm).symm
          obtain ⟨O, h2⟩ := loop_twice (tx := S text) (rw := rowD n0 (fieldRow ps) :: (rowsD k1 ((bodySh es hs).take (m + 1)) ++ rowD i r :: rowsD k3 rest)) (fs := ps.map enc) (s := s) (rest := rowsD k3 rest) (k := i) (a := a') (b := b') (c := c') (E0 := es.take m) (Sh.e es[m] (List.getElem_mem hm)) (by
            have := Sh.el
            rw [List.length_take]
            show _ < 16777216
            omega)
          rw [htk] at h1
          rw [← hre] at h2
          exact ⟨O, h1.trans h2⟩
end Md
-- My21
set_option Elab.async false
set_option linter.all false
set_option maxRecDepth 100000
set_option maxHeartbeats 4000000
/-! right: parts. -/
namespace Md
open PySem PySem.Spec PyProof.Rows L2
open _root_.SX (S)
set_option autoImplicit false
theorem cut_take {α : Type} (xs : List α) (k : Nat) : cutD xs none (some (k : Int)) = xs.take k := by
  unfold cutD
  rw [HT.sIx_none, HT.sIx_nat, List.drop_zero, Nat.sub_zero]
  by_cases h : k ≤ xs.length
  · rw [Nat.min_eq_left h]
  · rw [Nat.min_eq_right (by omega), List.take_length, List.take_of_length_le (by omega)]
theorem cut_drop {α : Type} (xs : List α) (k : Nat) : cutD xs (some (k : Int)) none = xs.drop k := by
  unfold cutD
  rw [HT.sIx_none, HT.sIx_nat]
  by_cases h : k ≤ xs.length
  · rw [Nat.min_eq_left h]
    exact List.take_of_length_le (by rw [List.length_drop]; omega)
  · rw [Nat.min_eq_right (by omega), Nat.sub_self, List.take_zero, List.drop_eq_nil_of_le (by omega)]
theorem cut_last {α : Type} (xs : List α) : cutD xs none (some (-1)) = xs.dropLast := by
  unfold cutD
  rw [HT.sIx_none, List.drop_zero, Nat.sub_zero, List.dropLast_eq_take]
  have : HT.sIx xs.length xs.length (some (-1)) = xs.length - 1 := by
    unfold HT.sIx
    dsimp only
    rw [if_pos (by decide)]
    omega
  rw [this]
theorem mSl_of {a : mE} {lo hi : mO} {env : Ev} {s s1 s2 s3 : Tn} {d z : Dt} {l u : Option Int} (h1 : a env s = some (d, s1)) (h2 : lo env s1 = some (l, s2)) (h3 : hi env s2 = some (u, s3)) (h4 : dSl d l u = some z) : mSl a lo hi env s = some (z, s3) := by
  unfold mSl
  rw [h1]
  dsimp only
  rw [h2]
  dsimp only
  rw [h3]
  dsimp only
  rw [h4]
theorem oSome_of {a : mE} {env : Ev} {s s1 : Tn} {i : Int} (h : a env s = some (.int i, s1)) : oSome a env s = some (some i, s1) := by
  unfold oSome
  rw [h]
theorem oNone_of {env : Ev} {s : Tn} : oNone env s = some (none, s) := rfl
abbrev RD (rs : List Row) : Dt := .list (rs.map encRow)
theorem sl_take (rs : List Row) (k : Nat) : dSl (RD rs) none (some (k : Int)) = some (RD (rs.take k)) := by
  show some (PyData.list (cutD (rs.map encRow) none (some (k : Int)))) = _
  rw [cut_take]
  show _ = some (PyData.list ((rs.take k).map encRow))
  rw [List.map_take]
theorem sl_drop (rs : List Row) (k : Nat) : dSl (RD rs) (some (k : Int)) none = some (RD (rs.drop k)) := by
  show some (PyData.list (cutD (rs.map encRow) (some (k : Int)) none)) = _
  rw [cut_drop]
  show _ = some (PyData.list ((rs.drop k).map encRow))
  rw [List.map_drop]
theorem addRD {a b : List Row} (h : a.length + b.length ≤ 1000) : dAdd (RD a) (RD b) = some (RD (a ++ b)) := by
  rw [addL (by rw [List.length_map, List.length_map]; show _ ≤ 16777216; omega)]
  show _ = some (PyData.list ((a ++ b).map encRow))
  rw [List.map_append]
theorem ixRD {rs : List Row} {k : Nat} {r : Row} (h : rs[k]? = some r) : dIx (RD rs) (.int (k : Int)) = some (encRow r) := atI_at (by rw [List.getElem?_map, h]; rfl)
abbrev envQ (own rows k kind bent text lines edges : Option Dt) : Ev := [some (.dict []), own, rows, k, kind, bent, text, lines, edges]
abbrev mBend : mE := mIf (mT (m2 dEq (mVar 4) (mC (.int 0)))) (m2 dAdd (m2 dIx (mVar 2) (mVar 3)) (mF dLst (mCons (mC (.str ("7" : Str))) mNil))) (mIf (mT (m2 dEq (mVar 4) (mC (.int 1)))) (mSl (m2 dIx (mVar 2) (mVar 3)) oNone (oSome (m1 dNeg (mC (.int 1))))) (mSl (m2 dIx (mVar 2) (mVar 3)) (oSome (mC (.int 1))) oNone))
theorem lit_7 : ("7" : Str) = S (numW 7) := by decide +kernel
theorem bend_is {own bent text lines edges : Option Dt} {rs : List Row} {r : Row} {k : Nat} {kind : Int} (hr : rs[k]? = some r) (hg : GoodRow r) (s : Tn) : mBend (envQ own (some (RD rs)) (some (.int (k : Int))) (some (.int kind)) bent text lines edges) s = some (encRow (bend kind r), s) := by
  have hx : m2 dIx (mVar 2) (mVar 3) (envQ own (some (RD rs)) (some (.int (k : Int))) (some (.int kind)) bent text lines edges) s = some (encRow r, s) := m2_of (show mVar 2 _ _ = some (RD rs, s) from rfl) (show mVar 3 _ _ = some (.int (k : Int), s) from rfl) (ixRD hr)
  have hl := hg.ok.len
  have c : ∀ j : Int, mT (m2 dEq (mVar 4) (mC (.int j))) (envQ own (some (RD rs)) (some (.int (k : Int))) (some (.int kind)) bent text lines edges) s = some (decide (kind = j), s) := fun j => mT_of (m2_of (show mVar 4 _ _ = some (.int kind, s) from rfl) (show mC _ _ _ = some (.int j, s) from rfl) rfl)
  have c0 := c 0
  have c1 := c 1
  unfold bend
  by_cases h0 : kind = 0
  · rw [decide_eq_true h0] at c0
    rw [if_pos h0]
    refine (mIf_t c0).trans (m2_of hx (show mF dLst _ _ _ = some (.list [.str ("7" : Str)], s) from rfl) ?_)
    show dAdd (.list (r.map strD)) _ = _
    rw [addL (by rw [List.length_map]; show _ + 1 ≤ 16777216; omega), lit_7]
    show some (PyData.list (r.map strD ++ [strD (numW 7)])) = some (.list ((r ++ [numW 7]).map strD))
    rw [List.map_append]
    rfl
  · rw [decide_eq_false h0] at c0
    rw [if_neg h0]
    by_cases h1 : kind = 1
    · rw [decide_eq_true h1] at c1
      rw [if_pos h1]
      refine (mIf_f c0).trans ((mIf_t c1).trans (mSl_of hx oNone_of (oSome_of (show m1 dNeg (mC (.int 1)) _ _ = some (.int (-1), s) from rfl)) ?_))
      show some (PyData.list (cutD (r.map strD) none (some (-1)))) = some (.list (r.dropLast.map strD))
      rw [cut_last, List.map_dropLast]
    · rw [decide_eq_false h1] at c1
      rw [if_neg h1]
      refine (mIf_f c0).trans ((mIf_f c1).trans (mSl_of hx (oSome_of (show mC (.int 1) _ _ = some (.int 1, s) from rfl)) oNone_of ?_))
      cases r with
      | nil => exact absurd rfl hg.ok.ne
      | cons w ws =>
        show some (PyData.list (cutD (strD w :: ws.map strD) (some 1) none)) = some (.list (ws.map strD))
        rw [cut_tail]
/-- what the law asks of a text that fails -/
theorem same_due {text lines : Dt} {env : Ev} {x : Str} {i : Int} {s : Tn} {me ml : mE} (h1 : me env s = some (.str x, s)) (h2 : m_read_sheet [.str x] s = some (.inr i, s)) (h3 : ml env s = some (.int i, s)) :
    mCall (m_law_same 8) (mCons (mCall m_law_heard (mCons me mNil)) (mCons (mF dLst (mCons ml (mCons (mC (.bool true)) mNil))) mNil)) env s = some (.bool true, s) :=
  mCall_of (mCons_of (mCall_of (mCons_of h1 mNil_of) (heard_ex h2)) (mCons_of (mF_of (mCons_of h3 (mCons_of (show mC _ _ _ = some _ from rfl) mNil_of)) (show dLst [.int i, .bool true] = some (.list [.int i, .bool true]) from rfl)) mNil_of)) (same8 (pl_due i) s)
theorem iff_not {c : mE} {t : mS} {env : Ev} {s : Tn} (h : c env s = some (.bool true, s)) : mIfS (mBnot (mT c)) t mNext env s = some (.nx env, s) := (mIfS_f (mBnot_of (mT_of h))).trans rfl
/-- wide_text called -/
theorem wide_call {rs : List Row} {n : Nat} {s : Tn} {env : Ev} {mr : mE} (he : mVar 0 env s = some (.dict [], s)) (hm : mr env s = some (RD rs, s)) (ok : Okn (n + 81) s) (hr : ∀ r ∈ rs, RowOk r) (hl : rs.length ≤ 20) :
    ∃ text nums ls e s', mAsg (mCall m_law_wide_text (mCons (mVar 0) (mCons mr mNil))) (aTup 2 (aCons (aName 6) (aCons (aName 7) aNil))) env s = some (.nx ((env.set 6 (some (.str (S text)))).set 7 (some (.list (nums.map .int)))), s') ∧ Wide rs text nums ls e ∧ Okn n s' := by
  obtain ⟨text, nums, ls, e, s', h1, W, k⟩ := wide_is (n := n) (ok.le (by omega)) hr hl
  exact ⟨text, nums, ls, e, s', mAsg_of (mCall_of (mCons_of he (mCons_of hm mNil_of)) h1) rfl, W, k⟩
end Md
-- My22
set_option Elab.async false
set_option linter.all false
set_option maxRecDepth 100000
set_option maxHeartbeats 4000000
/-! right gives true. -/
namespace Md
open PySem PySem.Spec PyProof.Rows L2
open _root_.SX (S)
set_option autoImplicit false
theorem lit_bad : ("\n\nturn =" : Str) = S [10, 10, 116, 117, 114, 110, 32, 61] := by decide +kernel
theorem lit_turn2 : ("turn" : Str) = S turnN := lit_turn
def sheetD (ps : List Pr) (es : List Ed) (hs : List Pr) : Dt := .tuple [.tuple (ps.map enc), .tuple (es.map enc2), .tuple (hs.map enc)]
abbrev q4 : mS := mSeq (mIfS (mT (m2 dEq (m2 dIx (m2 dIx (mVar 2) (m2 dSub (mVar 3) (mC (.int 1)))) (mC (.int 0))) (mC (.str ("turn" : Str))))) (mRet (mC (.bool true))) mNext) (mSeq (mAsg (mCall m_law_wide_text (mCons (mVar 0) (mCons (m2 dAdd (mSl (mVar 2) oNone (oSome (mVar 3))) (mSl (mVar 2) (oSome (m2 dSub (mVar 3) (mC (.int 1)))) oNone)) mNil))) (aTup 2 (aCons (aName 6) (aCons (aName 7) aNil)))) (mRet (mCall (m_law_same 8) (mCons (mCall m_law_heard (mCons (mVar 6) mNil)) (mCons (mF dLst (mCons (m2 dIx (mVar 7) (mVar 3)) (mCons (mC (.bool true)) mNil))) mNil)))))
theorem ok_rows {ps hs : List Pr} {es : List Ed} (Sh : Sheet ps es hs) : ∀ r ∈ rowsSh ps es hs, RowOk r := fun r hr => (rows_good Sh r hr).ok
theorem len_rows {ps hs : List Pr} {es : List Ed} (Sh : Sheet ps es hs) : (rowsSh ps es hs).length ≤ 8 := by
  have h1 := Sh.el
  have h2 := Sh.hl
  show (es.map edgeRow ++ hs.map halfRow).length + 1 ≤ 8
  rw [List.length_append, List.length_map, List.length_map]
  omega
/-- the last check: a row told twice -/
theorem q4_ok {ps hs : List Pr} {es : List Ed} (Sh : Sheet ps es hs) {j n : Nat} (hj : j < (rowsSh ps es hs).length) {s : Tn} (ok : Okn (n + 81) s) {kind bent text lines edges : Option Dt} :
    ∃ s', q4 (envQ (some (sheetD ps es hs)) (some (RD (rowsSh ps es hs))) (some (.int ((j + 1 : Nat) : Int))) kind bent text lines edges) s = some (.rt (.bool true), s') := by
  have hN := len_rows Sh
  obtain ⟨r, hr⟩ : ∃ r, (rowsSh ps es hs)[j]? = some r := ⟨_, List.getElem?_eq_getElem hj⟩
  have hrm : r ∈ rowsSh ps es hs := List.mem_of_getElem? hr
  obtain ⟨nm, qs, er, wn, _, _, _⟩ := (rows_good Sh r hrm).ex
  have e1 : ((j + 1 : Nat) : Int) - 1 = (j : Int) := by omega
  have hsub : m2 dSub (mVar 3) (mC (.int 1)) (envQ (some (sheetD ps es hs)) (some (RD (rowsSh ps es hs))) (some (.int ((j + 1 : Nat) : Int))) kind bent text lines edges) s = some (.int (j : Int), s) := m2_of (show mVar 3 _ _ = some (.int ((j + 1 : Nat) : Int), s) from rfl) (show mC _ _ _ = some (.int 1, s) from rfl) (by rw [subI, e1])
  have hix : m2 dIx (m2 dIx (mVar 2) (m2 dSub (mVar 3) (mC (.int 1)))) (mC (.int 0)) (envQ (some (sheetD ps es hs)) (some (RD (rowsSh ps es hs))) (some (.int ((j + 1 : Nat) : Int))) kind bent text lines edges) s = some (.str (S nm), s) := by
    refine m2_of (m2_of (show mVar 2 _ _ = some (RD (rowsSh ps es hs), s) from rfl) hsub (ixRD hr)) (show mC _ _ _ = some (.int ((0 : Nat) : Int), s) from rfl) ?_
    rw [er]
    exact atI_at rfl
  have hc : mT (m2 dEq (m2 dIx (m2 dIx (mVar 2) (m2 dSub (mVar 3) (mC (.int 1)))) (mC (.int 0))) (mC (.str ("turn" : Str)))) (envQ (some (sheetD ps es hs)) (some (RD (rowsSh ps es hs))) (some (.int ((j + 1 : Nat) : Int))) kind bent text lines edges) s = some (decide (S nm = S turnN), s) := by
    rw [lit_turn]
    exact mT_of (m2_of hix (show mC _ _ _ = some _ from rfl) rfl)
  by_cases ht : nm = turnN
  · rw [ht, decide_eq_true rfl] at hc
    exact ⟨s, mSeq_rt ((mIfS_t hc).trans (mRet_of (show mC _ _ _ = some _ from rfl)))⟩
  · rw [decide_eq_false fun z => ht (_root_.SX.S_inj z)] at hc
    have hje : j ≤ es.length := by
      by_cases q : j ≤ es.length
      · exact q
      · exfalso
        obtain ⟨m, rfl⟩ : ∃ m, j = m + 1 := ⟨j - 1, by omega⟩
        have h2 : (es.map edgeRow ++ hs.map halfRow)[m]? = some r := hr
        rw [List.getElem?_append_right (by rw [List.length_map]; omega), List.getElem?_map] at h2
        cases h3 : hs[m - (es.map edgeRow).length]? with
        | none =>
          rw [h3] at h2
          cases h2
        | some h =>
          rw [h3] at h2
          cases h2
          have hh : some turnN = some nm := congrArg List.head? er
          exact ht (Option.some.inj hh).symm
    have hdrop : (rowsSh ps es hs).drop j = r :: (rowsSh ps es hs).drop (j + 1) := by
      have := List.drop_eq_getElem_cons hj
      rw [List.getElem?_eq_getElem hj] at hr
      rw [this, Option.some.inj hr]
    have hlen : ((rowsSh ps es hs).take (j + 1)).length + ((rowsSh ps es hs).drop j).length ≤ 20 := by
      rw [List.length_take, List.length_drop]
      omega
    obtain ⟨tx, nums, ls, e, s1, h1, W, k1⟩ := wide_call (rs := (rowsSh ps es hs).take (j + 1) ++ (rowsSh ps es hs).drop j) (n := n) (s := s) (env := envQ (some (sheetD ps es hs)) (some (RD (rowsSh ps es hs))) (some (.int ((j + 1 : Nat) : Int))) kind bent text lines edges) rfl
      (m2_of (mSl_of (show mVar 2 _ _ = some (RD (rowsSh ps es hs), s) from rfl) oNone_of (oSome_of (show mVar 3 _ _ = some (.int ((j + 1 : Nat) : Int), s) from rfl)) (sl_take _ _)) (mSl_of (show mVar 2 _ _ = some (RD (rowsSh ps es hs), s) from rfl) (oSome_of hsub) oNone_of (sl_drop _ _)) (addRD (by omega))) ok
      (fun x hx => by
        rcases List.mem_append.mp hx with hx | hx
        · exact ok_rows Sh x (List.mem_of_mem_take hx)
        · exact ok_rows Sh x (List.mem_of_mem_drop hx)) (by rw [List.length_append]; exact hlen)
    rw [hdrop] at W hlen
    obtain ⟨i, hi, h2⟩ := read_double Sh hje hr W (by rw [List.length_append]; exact hlen) s1
    exact ⟨s1, (mSeq_nx ((mIfS_f hc).trans rfl)).trans ((mSeq_nx h1).trans (mRet_of (same_due (text := .none) (lines := .none) (show mVar 6 _ _ = some (.str (S tx), s1) from rfl) h2 (m2_of (show mVar 7 _ _ = some (.list (nums.map .int), s1) from rfl) (show mVar 3 _ _ = some (.int ((j + 1 : Nat) : Int), s1) from rfl) (show L2.atI _ _ = _ from atI_at (by rw [List.getElem?_map, hi]; rfl))))))⟩
end Md
-- My23
set_option Elab.async false
set_option linter.all false
set_option maxRecDepth 100000
set_option maxHeartbeats 4000000
/-! right gives true. -/
namespace Md
open PySem PySem.Spec PyProof.Rows L2
open _root_.SX (S)
set_option autoImplicit false
abbrev mW (a : mE) : mS := mAsg (mCall m_law_wide_text (mCons (mVar 0) (mCons a mNil))) (aTup 2 (aCons (aName 6) (aCons (aName 7) aNil)))
abbrev mHeard (a b : mE) : mE := mCall (m_law_same 8) (mCons (mCall m_law_heard (mCons a mNil)) (mCons b mNil))
abbrev q3 : mS := mSeq (mAsg (m2 dAdd (mC (.int 1)) (mCall m_law_take (mCons (mVar 0) (mCons (mF dLen (mCons (mVar 2) mNil)) mNil)))) (aName 3)) (mSeq (mW (mSl (mVar 2) oNone (oSome (mVar 3)))) (mSeq (mAsg (mSl (m2 dIx (mVar 1) (mC (.int 1))) oNone (oSome (m2 dSub (mVar 3) (mC (.int 1))))) (aName 8)) (mSeq (mIfS (mBnot (mT (mHeard (mVar 6) (mF dTup (mCons (m2 dIx (mVar 1) (mC (.int 0))) (mCons (mVar 8) (mCons (mSl (m2 dIx (mVar 1) (mC (.int 2))) oNone (oSome (mF dMax2 (mCons (mC (.int 0)) (mCons (m2 dSub (m2 dSub (mVar 3) (mC (.int 1))) (mF dLen (mCons (m2 dIx (mVar 1) (mC (.int 1))) mNil))) mNil))))) mNil))))))) (mRet (mC (.bool false))) mNext) q4)))
theorem len_rd (rs : List Row) (env : Ev) (s : Tn) (h : mVar 2 env s = some (RD rs, s)) : mF dLen (mCons (mVar 2) mNil) env s = some (.int (rs.length : Int), s) := mF_of (mCons_of h mNil_of) (by
  show some (PyData.int ((rs.map encRow).length : Int)) = _
  rw [List.length_map])
theorem tk_len {rs : List Row} {n : Nat} {s : Tn} {env : Ev} (he : mVar 0 env s = some (.dict [], s)) (h : mVar 2 env s = some (RD rs, s)) (h0 : 0 < rs.length) (h1 : rs.length ≤ 100) (ok : Okn (n + 1) s) : ∃ (v : Nat) (s' : Tn), mCall m_law_take (mCons (mVar 0) (mCons (mF dLen (mCons (mVar 2) mNil)) mNil)) env s = some (.int (v : Int), s') ∧ v < rs.length ∧ Okn n s' := by
  obtain ⟨v, s', a, b1, c, d⟩ := take_ok (b := (rs.length : Int)) (by omega) (by omega) ok
  have e : ((v.toNat : Nat) : Int) = v := by omega
  refine ⟨v.toNat, s', ?_, by omega, d⟩
  rw [e]
  exact mCall_of (mCons_of he (mCons_of (len_rd rs env s h) mNil_of)) a
theorem q3_ok {ps hs : List Pr} {es : List Ed} (Sh : Sheet ps es hs) {n : Nat} {s : Tn} (ok : Okn (n + 200) s) {k kind bent text lines edges : Option Dt} :
    ∃ s', q3 (envQ (some (sheetD ps es hs)) (some (RD (rowsSh ps es hs))) k kind bent text lines edges) s = some (.rt (.bool true), s') := by
  have hN := len_rows Sh
  have hpos : 0 < (rowsSh ps es hs).length := Nat.succ_pos _
  obtain ⟨j, s1, h1, hj, k1⟩ := tk_len (rs := rowsSh ps es hs) (n := n + 162) (env := envQ (some (sheetD ps es hs)) (some (RD (rowsSh ps es hs))) k kind bent text lines edges) (s := s) rfl rfl hpos (by omega) (ok.le (by omega))
  have ej : (1 : Int) + (j : Int) = ((j + 1 : Nat) : Int) := by omega
  have p1 : mAsg (m2 dAdd (mC (.int 1)) (mCall m_law_take (mCons (mVar 0) (mCons (mF dLen (mCons (mVar 2) mNil)) mNil)))) (aName 3) (envQ (some (sheetD ps es hs)) (some (RD (rowsSh ps es hs))) k kind bent text lines edges) s = some (.nx (envQ (some (sheetD ps es hs)) (some (RD (rowsSh ps es hs))) (some (.int ((j + 1 : Nat) : Int))) kind bent text lines edges), s1) :=
    mAsg_of (m2_of (show mC _ _ _ = some _ from rfl) h1 (by rw [addI, ej])) rfl
  obtain ⟨tx, nums, ls, e, s2, h2, W, k2⟩ := wide_call (rs := (rowsSh ps es hs).take (j + 1)) (n := n + 81) (s := s1) (env := envQ (some (sheetD ps es hs)) (some (RD (rowsSh ps es hs))) (some (.int ((j + 1 : Nat) : Int))) kind bent text lines edges) (mr := mSl (mVar 2) oNone (oSome (mVar 3))) rfl
    (mSl_of (show mVar 2 _ _ = some (RD (rowsSh ps es hs), s1) from rfl) oNone_of (oSome_of (show mVar 3 _ _ = some (.int ((j + 1 : Nat) : Int), s1) from rfl)) (sl_take _ _)) k1 (fun x hx => ok_rows Sh x (List.mem_of_mem_take hx)) (by rw [List.length_take]; omega)
  have hjb : j ≤ (bodySh es hs).length := by
    have : (rowsSh ps es hs).length = (bodySh es hs).length + 1 := rfl
    omega
  have h3 := read_cut Sh hjb W (by rw [List.length_take]; omega) s2
  obtain ⟨s3, h4⟩ := q4_ok Sh (j := j) hj (n := n) (s := s2) k2 (kind := kind) (bent := bent) (text := some (.str (S tx))) (lines := some (.list (nums.map .int))) (edges := some (.tuple ((es.take j).map enc2)))
  have e1 : ((j + 1 : Nat) : Int) - 1 = (j : Int) := by omega
  have hsub : ∀ ed : Option Dt, m2 dSub (mVar 3) (mC (.int 1)) (envQ (some (sheetD ps es hs)) (some (RD (rowsSh ps es hs))) (some (.int ((j + 1 : Nat) : Int))) kind bent (some (.str (S tx))) (some (.list (nums.map .int))) ed) s2 = some (.int (j : Int), s2) := fun ed => m2_of (show mVar 3 _ _ = some (.int ((j + 1 : Nat) : Int), s2) from rfl) (show mC _ _ _ = some (.int 1, s2) from rfl) (by rw [subI, e1])
  have i0 : dIx (sheetD ps es hs) (.int 0) = some (.tuple (ps.map enc)) := rfl
  have i1 : dIx (sheetD ps es hs) (.int 1) = some (.tuple (es.map enc2)) := rfl
  have i2 : dIx (sheetD ps es hs) (.int 2) = some (.tuple (hs.map enc)) := rfl
  have t1 : dSl (.tuple (es.map enc2)) none (some (j : Int)) = some (.tuple ((es.take j).map enc2)) := by
    show some (PyData.tuple (cutD (es.map enc2) none (some (j : Int)))) = _
    rw [cut_take, List.map_take]
  have p3 : mAsg (mSl (m2 dIx (mVar 1) (mC (.int 1))) oNone (oSome (m2 dSub (mVar 3) (mC (.int 1))))) (aName 8) (envQ (some (sheetD ps es hs)) (some (RD (rowsSh ps es hs))) (some (.int ((j + 1 : Nat) : Int))) kind bent (some (.str (S tx))) (some (.list (nums.map .int))) edges) s2 = some (.nx (envQ (some (sheetD ps es hs)) (some (RD (rowsSh ps es hs))) (some (.int ((j + 1 : Nat) : Int))) kind bent (some (.str (S tx))) (some (.list (nums.map .int))) (some (.tuple ((es.take j).map enc2)))), s2) :=
    mAsg_of (mSl_of (m2_of (show mVar 1 _ _ = some (sheetD ps es hs, s2) from rfl) (show mC _ _ _ = some _ from rfl) i1) oNone_of (oSome_of (hsub edges)) t1) rfl
  have hmax : dMax2 [.int 0, .int ((j : Int) - (es.length : Int))] = some (.int ((j - es.length : Nat) : Int)) := by
    show some (PyData.int (if (j : Int) - (es.length : Int) > 0 then (j : Int) - (es.length : Int) else 0)) = _
    congr 2
    split <;> omega
  have t2 : dSl (.tuple (hs.map enc)) none (some ((j - es.length : Nat) : Int)) = some (.tuple ((hs.take (j - es.length)).map enc)) := by
    show some (PyData.tuple (cutD (hs.map enc) none (some ((j - es.length : Nat) : Int)))) = _
    rw [cut_take, List.map_take]
  have hlen : mF dLen (mCons (m2 dIx (mVar 1) (mC (.int 1))) mNil) (envQ (some (sheetD ps es hs)) (some (RD (rowsSh ps es hs))) (some (.int ((j + 1 : Nat) : Int))) kind bent (some (.str (S tx))) (some (.list (nums.map .int))) (some (.tuple ((es.take j).map enc2)))) s2 = some (.int (es.length : Int), s2) :=
    mF_of (mCons_of (m2_of (show mVar 1 _ _ = some (sheetD ps es hs, s2) from rfl) (show mC _ _ _ = some _ from rfl) i1) mNil_of) (by
      show some (PyData.int ((es.map enc2).length : Int)) = _
      rw [List.length_map])
  have hdue : mF dTup (mCons (m2 dIx (mVar 1) (mC (.int 0))) (mCons (mVar 8) (mCons (mSl (m2 dIx (mVar 1) (mC (.int 2))) oNone (oSome (mF dMax2 (mCons (mC (.int 0)) (mCons (m2 dSub (m2 dSub (mVar 3) (mC (.int 1))) (mF dLen (mCons (m2 dIx (mVar 1) (mC (.int 1))) mNil))) mNil))))) mNil))) (envQ (some (sheetD ps es hs)) (some (RD (rowsSh ps es hs))) (some (.int ((j + 1 : Nat) : Int))) kind bent (some (.str (S tx))) (some (.list (nums.map .int))) (some (.tuple ((es.take j).map enc2)))) s2 = some (sheetD ps (es.take j) (hs.take (j - es.length)), s2) :=
    mF_of (mCons_of (m2_of (show mVar 1 _ _ = some (sheetD ps es hs, s2) from rfl) (show mC _ _ _ = some _ from rfl) i0) (mCons_of (show mVar 8 _ _ = some (.tuple ((es.take j).map enc2), s2) from rfl) (mCons_of (mSl_of (m2_of (show mVar 1 _ _ = some (sheetD ps es hs, s2) from rfl) (show mC _ _ _ = some _ from rfl) i2) oNone_of (oSome_of (mF_of (mCons_of (show mC _ _ _ = some (.int 0, s2) from rfl) (mCons_of (m2_of (hsub _) hlen (subI _ _)) mNil_of)) hmax)) t2) mNil_of))) rfl
  have hpl : Pl 4 (sheetD ps (es.take j) (hs.take (j - es.length))) := pl_sheet (by have := Sh.f.len; omega) (by have := Sh.el; rw [List.length_take]; omega) (by have := Sh.hl; rw [List.length_take]; omega)
  have p4 := iff_not (t := mRet (mC (.bool false))) (mCall_of (mCons_of (mCall_of (mCons_of (show mVar 6 _ _ = some (.str (S tx), s2) from rfl) mNil_of) (heard_in h3)) (mCons_of hdue mNil_of)) (same8' hpl s2))
  exact ⟨s3, (mSeq_nx p1).trans ((mSeq_nx h2).trans ((mSeq_nx p3).trans ((mSeq_nx p4).trans h4)))⟩
end Md
-- My24
set_option Elab.async false
set_option linter.all false
set_option maxRecDepth 100000
set_option maxHeartbeats 4000000
/-! right gives true: the whole. -/
namespace Md
open PySem PySem.Spec PyProof.Rows L2
open _root_.SX (S)
set_option autoImplicit false
abbrev q2 : mS := mSeq (mW (mVar 2)) (mSeq (mIfS (mBnot (mT (mHeard (m2 dAdd (mVar 6) (mC (.str ("\n\nturn =" : Str)))) (mF dLst (mCons (m2 dAdd (m2 dCount (mVar 6) (mC (.str ("\n" : Str)))) (mC (.int 2))) (mCons (mC (.bool true)) mNil)))))) (mRet (mC (.bool false))) mNext) q3)
theorem q2_ok {ps hs : List Pr} {es : List Ed} (Sh : Sheet ps es hs) {n : Nat} {s : Tn} (ok : Okn (n + 281) s) {k kind bent text lines edges : Option Dt} :
    ∃ s', q2 (envQ (some (sheetD ps es hs)) (some (RD (rowsSh ps es hs))) k kind bent text lines edges) s = some (.rt (.bool true), s') := by
  have hN := len_rows Sh
  obtain ⟨tx, nums, ls, e, s1, h1, W, k1⟩ := wide_call (rs := rowsSh ps es hs) (n := n + 200) (s := s) (env := envQ (some (sheetD ps es hs)) (some (RD (rowsSh ps es hs))) k kind bent text lines edges) (mr := mVar 2) rfl rfl ok (ok_rows Sh) (by omega)
  obtain ⟨s2, h2⟩ := q3_ok Sh (n := n) (s := s1) k1 (k := k) (kind := kind) (bent := bent) (text := some (.str (S tx))) (lines := some (.list (nums.map .int))) (edges := edges)
  have hb := W.bad (by omega) s1
  have hread : m_read_sheet [.str (S (tx ++ [10, 10, 116, 117, 114, 110, 32, 61]))] s1 = some (.inr ((ls.length : Int) + 2), s1) := by
    unfold m_read_sheet mFnX
    rw [if_pos ⟨rfl, rfl⟩]
    have hc : c_read_sheet (initE 8 [.str (S (tx ++ [10, 10, 116, 117, 114, 110, 32, 61]))]) s1 [] = some (.ex ((ls.length : Int) + 2), s1, []) := by
      refine mSeqX_ex ?_
      unfold mSetR
      rw [mCons_of (show mVar 0 _ _ = some (.str (S (tx ++ [10, 10, 116, 117, 114, 110, 32, 61])), s1) from rfl) mNil_of]
      dsimp only
      rw [hb]
    rw [hc]
  have hsh := W.short
  have hm1 : m2 dAdd (mVar 6) (mC (.str ("\n\nturn =" : Str))) (envQ (some (sheetD ps es hs)) (some (RD (rowsSh ps es hs))) k kind bent (some (.str (S tx))) (some (.list (nums.map .int))) edges) s1 = some (.str (S (tx ++ [10, 10, 116, 117, 114, 110, 32, 61])), s1) := by
    rw [lit_bad]
    exact m2_of (show mVar 6 _ _ = some (.str (S tx), s1) from rfl) (show mC _ _ _ = some _ from rfl) (addS (by show _ + 8 ≤ 16777216; omega))
  have hm2 : m2 dAdd (m2 dCount (mVar 6) (mC (.str ("\n" : Str)))) (mC (.int 2)) (envQ (some (sheetD ps es hs)) (some (RD (rowsSh ps es hs))) k kind bent (some (.str (S tx))) (some (.list (nums.map .int))) edges) s1 = some (.int ((ls.length : Int) + 2), s1) := by
    refine m2_of (m2_of (show mVar 6 _ _ = some (.str (S tx), s1) from rfl) (show mC _ _ _ = some _ from rfl) (z := .int (ls.length : Int)) ?_) (show mC _ _ _ = some (.int 2, s1) from rfl) (addI _ _)
    show some (PyData.int (Txt.count (S tx) ("\n" : Str))) = _
    rw [W.count]
  have p := iff_not (t := mRet (mC (.bool false))) (same_due (text := .none) (lines := .none) hm1 hread hm2)
  exact ⟨s2, (mSeq_nx h1).trans ((mSeq_nx p).trans h2)⟩
theorem right_ok (G : GroundSpec) {n : Nat} {s : Tn} (ok : Okn (n + 400) s) : ∃ s', m_law_right [.dict []] s = some (.bool true, s') := by
  obtain ⟨ps, es, hs, s1, h1, Sh, k1⟩ := sheet_ok G (n := n + 376) (s := s) (ok.le (by omega))
  have hN := len_rows Sh
  have hpos : 0 < (rowsSh ps es hs).length := Nat.succ_pos _
  have h2 := rows_sh Sh s1
  have p1 : mAsg (mCall m_law_sheet (mCons (mVar 0) mNil)) (aName 1) (initE 9 [.dict []]) s = some (.nx (envQ (some (sheetD ps es hs)) none none none none none none none), s1) := mAsg_of (mCall_of (mCons_of (show mVar 0 _ _ = some (.dict [], s) from rfl) mNil_of) h1) rfl
  have p2 : mAsg (mCall m_law_sheet_rows (mCons (mVar 1) mNil)) (aName 2) (envQ (some (sheetD ps es hs)) none none none none none none none) s1 = some (.nx (envQ (some (sheetD ps es hs)) (some (RD (rowsSh ps es hs))) none none none none none none), s1) := mAsg_of (mCall_of (mCons_of (show mVar 1 _ _ = some (sheetD ps es hs, s1) from rfl) mNil_of) h2) rfl
  obtain ⟨k, s2, h3, hk, k2⟩ := tk_len (rs := rowsSh ps es hs) (n := n + 375) (env := envQ (some (sheetD ps es hs)) (some (RD (rowsSh ps es hs))) none none none none none none) (s := s1) rfl rfl hpos (by omega) k1
  obtain ⟨kind, s3, h4, _, _, k3⟩ := take_ok (n := n + 374) (b := 3) (by decide) (by decide) k2
  have p3 : mPar 3 4 (mCons (mCall m_law_take (mCons (mVar 0) (mCons (mF dLen (mCons (mVar 2) mNil)) mNil))) (mCons (mCall m_law_take (mCons (mVar 0) (mCons (mC (.int 3)) mNil))) mNil)) (envQ (some (sheetD ps es hs)) (some (RD (rowsSh ps es hs))) none none none none none none) s1 = some (.nx (envQ (some (sheetD ps es hs)) (some (RD (rowsSh ps es hs))) (some (.int (k : Int))) (some (.int kind)) none none none none), s3) := by
    unfold mPar
    rw [mCons_of h3 (mCons_of (mCall_of (mCons_of (show mVar 0 _ _ = some (.dict [], s2) from rfl) (mCons_of (show mC _ _ _ = some _ from rfl) mNil_of)) h4) mNil_of)]
    rfl
  obtain ⟨r, hr⟩ : ∃ r, (rowsSh ps es hs)[k]? = some r := ⟨_, List.getElem?_eq_getElem hk⟩
  have hg := rows_good Sh r (List.mem_of_getElem? hr)
  have p4 : mAsg mBend (aName 5) (envQ (some (sheetD ps es hs)) (some (RD (rowsSh ps es hs))) (some (.int (k : Int))) (some (.int kind)) none none none none) s3 = some (.nx (envQ (some (sheetD ps es hs)) (some (RD (rowsSh ps es hs))) (some (.int (k : Int))) (some (.int kind)) (some (encRow (bend kind r))) none none none), s3) := mAsg_of (bend_is hr hg s3) rfl
  have ek : ((k : Int) + 1) = ((k + 1 : Nat) : Int) := by omega
  have lt : ((rowsSh ps es hs).take k).length ≤ 8 := by rw [List.length_take]; omega
  have ld : ((rowsSh ps es hs).drop (k + 1)).length ≤ 8 := by rw [List.length_drop]; omega
  obtain ⟨tx, nums, ls, e, s4, h5, W, k4⟩ := wide_call (rs := (rowsSh ps es hs).take k ++ [bend kind r] ++ (rowsSh ps es hs).drop (k + 1)) (n := n + 281) (s := s3) (env := envQ (some (sheetD ps es hs)) (some (RD (rowsSh ps es hs))) (some (.int (k : Int))) (some (.int kind)) (some (encRow (bend kind r))) none none none) (mr := m2 dAdd (m2 dAdd (mSl (mVar 2) oNone (oSome (mVar 3))) (mF dLst (mCons (mVar 5) mNil))) (mSl (mVar 2) (oSome (m2 dAdd (mVar 3) (mC (.int 1)))) oNone)) rfl
    (m2_of (m2_of (mSl_of (show mVar 2 _ _ = some (RD (rowsSh ps es hs), s3) from rfl) oNone_of (oSome_of (show mVar 3 _ _ = some (.int (k : Int), s3) from rfl)) (sl_take _ _)) (show mF dLst _ _ _ = some (RD [bend kind r], s3) from rfl) (addRD (by show _ + 1 ≤ 1000; omega))) (mSl_of (show mVar 2 _ _ = some (RD (rowsSh ps es hs), s3) from rfl) (oSome_of (m2_of (show mVar 3 _ _ = some (.int (k : Int), s3) from rfl) (show mC _ _ _ = some (.int 1, s3) from rfl) (by rw [addI, ek]))) oNone_of (sl_drop _ _)) (addRD (by rw [List.length_append, List.length_singleton]; omega))) (k3.le (by omega))
    (fun x hx => by
      rcases List.mem_append.mp hx with hx | hx
      · rcases List.mem_append.mp hx with hx | hx
        · exact ok_rows Sh x (List.mem_of_mem_take hx)
        · rw [List.mem_singleton.mp hx]
          exact bend_ok hg kind
      · exact ok_rows Sh x (List.mem_of_mem_drop hx)) (by rw [List.length_append, List.length_append, List.length_singleton]; omega)
  have ea : (rowsSh ps es hs).take k ++ [bend kind r] ++ (rowsSh ps es hs).drop (k + 1) = (rowsSh ps es hs).take k ++ bend kind r :: (rowsSh ps es hs).drop (k + 1) := by rw [List.append_assoc]; rfl
  rw [ea] at W
  obtain ⟨i, hi, h6⟩ := read_bent Sh (bend_bad hg kind) hk W (by rw [List.length_append, List.length_cons]; omega) s4
  have p6 := iff_not (t := mRet (mC (.bool false))) (same_due (text := .none) (lines := .none) (env := envQ (some (sheetD ps es hs)) (some (RD (rowsSh ps es hs))) (some (.int (k : Int))) (some (.int kind)) (some (encRow (bend kind r))) (some (.str (S tx))) (some (.list (nums.map .int))) none) (me := mVar 6) (ml := m2 dIx (mVar 7) (mVar 3)) rfl h6 (m2_of (show mVar 7 _ _ = some (.list (nums.map .int), s4) from rfl) (show mVar 3 _ _ = some (.int (k : Int), s4) from rfl) (show L2.atI _ _ = _ from atI_at (by rw [List.getElem?_map, hi]; rfl))))
  obtain ⟨s5, h7⟩ := q2_ok Sh (n := n) (s := s4) k4 (k := some (.int (k : Int))) (kind := some (.int kind)) (bent := some (encRow (bend kind r))) (text := some (.str (S tx))) (lines := some (.list (nums.map .int))) (edges := none)
  refine ⟨s5, mFn_of rfl ?_⟩
  exact (mSeq_nx p1).trans ((mSeq_nx p2).trans ((mSeq_nx p3).trans ((mSeq_nx p4).trans ((mSeq_nx h5).trans ((mSeq_nx p6).trans h7)))))
end Md
-- My25
set_option Elab.async false
set_option linter.all false
set_option maxRecDepth 100000
set_option maxHeartbeats 4000000
/-! turn_in, is_on, touch as plain functions. -/
namespace Md
open PySem PySem.Spec PyProof.Rows L2
set_option autoImplicit false
def turnI (a b c : Pr) : Int := (b.1 - a.1) * (c.2 - a.2) - (b.2 - a.2) * (c.1 - a.1)
def Bd (p : Pr) : Prop := (-1000 ≤ p.1 ∧ p.1 ≤ 1000) ∧ (-1000 ≤ p.2 ∧ p.2 ≤ 1000)
theorem mulI {i j : Int} (h : -2000 ≤ i ∧ i ≤ 2000) : dMul (.int i) (.int j) = some (.int (i * j)) := by
  unfold dMul
  dsimp only
  rw [if_pos (.inl (show big i from ⟨by omega, by omega⟩))]
theorem turn_is {a b c : Pr} (ha : Bd a) (hb : Bd b) (s : Tn) : m_turn_in [enc a, enc b, enc c] s = some (.int (turnI a b c), s) := by
  have x : ∀ (i : Nat) (p : Pr), mVar i [some (enc a), some (enc b), some (enc c)] s = some (enc p, s) → m2 dIx (mVar i) (mC (.int 0)) [some (enc a), some (enc b), some (enc c)] s = some (.int p.1, s) ∧ m2 dIx (mVar i) (mC (.int 1)) [some (enc a), some (enc b), some (enc c)] s = some (.int p.2, s) := fun i p h =>
    ⟨m2_of h (show mC _ _ _ = some _ from rfl) (ix_enc0 p), m2_of h (show mC _ _ _ = some _ from rfl) (ix_enc1 p)⟩
  have xa := x 0 a rfl
  have xb := x 1 b rfl
  have xc := x 2 c rfl
  obtain ⟨⟨a1, a2⟩, a3, a4⟩ := ha
  obtain ⟨⟨b1, b2⟩, b3, b4⟩ := hb
  exact mFn_of rfl (mRet_of (m2_of (m2_of (m2_of xb.1 xa.1 (subI _ _)) (m2_of xc.2 xa.2 (subI _ _)) (mulI ⟨by omega, by omega⟩)) (m2_of (m2_of xb.2 xa.2 (subI _ _)) (m2_of xc.1 xa.1 (subI _ _)) (mulI ⟨by omega, by omega⟩)) (subI _ _)))
def mn (i j : Int) : Int := if j < i then j else i
def mx (i j : Int) : Int := if j > i then j else i
def betw (i j d : Int) : Bool := decide (mn i j ≤ d) && decide (d ≤ mx i j)
def onB (a b d : Pr) : Bool := decide (turnI a b d = 0) && (betw a.1 b.1 d.1 && betw a.2 b.2 d.2)
theorem chain_is {env : Ev} {s : Tn} {p q r : mE} {i j k : Int} (h1 : p env s = some (.int i, s)) (h2 : q env s = some (.int j, s)) (h3 : r env s = some (.int k, s)) : mChain dLe dLe p q r env s = some (.bool (decide (i ≤ j) && decide (j ≤ k)), s) := by
  unfold mChain
  rw [h1]
  dsimp only
  rw [h2]
  dsimp only
  rw [show dLe (.int i) (.int j) = some (.bool (decide (i ≤ j))) from rfl]
  cases decide (i ≤ j) with
  | false => rfl
  | true =>
    dsimp only
    rw [h3]
    rfl
theorem on_is {a b d : Pr} (ha : Bd a) (hb : Bd b) (s : Tn) : m_is_on [enc a, enc b, enc d] s = some (.bool (onB a b d), s) := by
  have x : ∀ (i : Nat) (p : Pr), mVar i [some (enc a), some (enc b), some (enc d)] s = some (enc p, s) → m2 dIx (mVar i) (mC (.int 0)) [some (enc a), some (enc b), some (enc d)] s = some (.int p.1, s) ∧ m2 dIx (mVar i) (mC (.int 1)) [some (enc a), some (enc b), some (enc d)] s = some (.int p.2, s) := fun i p h =>
    ⟨m2_of h (show mC _ _ _ = some _ from rfl) (ix_enc0 p), m2_of h (show mC _ _ _ = some _ from rfl) (ix_enc1 p)⟩
  have xa := x 0 a rfl
  have xb := x 1 b rfl
  have xd := x 2 d rfl
  have ht : mT (m2 dNe (mCall m_turn_in (mCons (mVar 0) (mCons (mVar 1) (mCons (mVar 2) mNil)))) (mC (.int 0))) [some (enc a), some (enc b), some (enc d)] s = some (!decide (turnI a b d = 0), s) :=
    mT_of (m2_of (mCall_of (mCons_of (show mVar 0 _ _ = some (enc a, s) from rfl) (mCons_of (show mVar 1 _ _ = some (enc b, s) from rfl) (mCons_of (show mVar 2 _ _ = some (enc d, s) from rfl) mNil_of))) (turn_is ha hb s)) (show mC _ _ _ = some (.int 0, s) from rfl) rfl)
  have c1 : mChain dLe dLe (mF dMin2 (mCons (m2 dIx (mVar 0) (mC (.int 0))) (mCons (m2 dIx (mVar 1) (mC (.int 0))) mNil))) (m2 dIx (mVar 2) (mC (.int 0))) (mF dMax2 (mCons (m2 dIx (mVar 0) (mC (.int 0))) (mCons (m2 dIx (mVar 1) (mC (.int 0))) mNil))) [some (enc a), some (enc b), some (enc d)] s = some (.bool (betw a.1 b.1 d.1), s) :=
    chain_is (mF_of (mCons_of xa.1 (mCons_of xb.1 mNil_of)) (show dMin2 [.int a.1, .int b.1] = some (.int (mn a.1 b.1)) from rfl)) xd.1 (mF_of (mCons_of xa.1 (mCons_of xb.1 mNil_of)) (show dMax2 [.int a.1, .int b.1] = some (.int (mx a.1 b.1)) from rfl))
  have c2 : mChain dLe dLe (mF dMin2 (mCons (m2 dIx (mVar 0) (mC (.int 1))) (mCons (m2 dIx (mVar 1) (mC (.int 1))) mNil))) (m2 dIx (mVar 2) (mC (.int 1))) (mF dMax2 (mCons (m2 dIx (mVar 0) (mC (.int 1))) (mCons (m2 dIx (mVar 1) (mC (.int 1))) mNil))) [some (enc a), some (enc b), some (enc d)] s = some (.bool (betw a.2 b.2 d.2), s) :=
    chain_is (mF_of (mCons_of xa.2 (mCons_of xb.2 mNil_of)) (show dMin2 [.int a.2, .int b.2] = some (.int (mn a.2 b.2)) from rfl)) xd.2 (mF_of (mCons_of xa.2 (mCons_of xb.2 mNil_of)) (show dMax2 [.int a.2, .int b.2] = some (.int (mx a.2 b.2)) from rfl))
  refine mFn_of rfl ?_
  unfold onB
  by_cases h0 : turnI a b d = 0
  · rw [decide_eq_true h0] at ht ⊢
    cases h1 : betw a.1 b.1 d.1 with
    | false =>
      rw [h1] at c1
      exact mSeq_rt ((mIfS_t ((mBor_f ht).trans (mBnot_of (mT_of c1)))).trans (mRet_of (show mC _ _ _ = some _ from rfl)))
    | true =>
      rw [h1] at c1
      exact (mSeq_nx ((mIfS_f ((mBor_f ht).trans (mBnot_of (mT_of c1)))).trans rfl)).trans (mRet_of c2)
  · rw [decide_eq_false h0] at ht ⊢
    exact mSeq_rt ((mIfS_t (mBor_t ht)).trans (mRet_of (show mC _ _ _ = some _ from rfl)))
end Md
-- My26
set_option Elab.async false
set_option linter.all false
set_option maxRecDepth 100000
set_option maxHeartbeats 4000000
/-! touch as a plain function. -/
namespace Md
open PySem PySem.Spec PyProof.Rows L2
set_option autoImplicit false
theorem mul_bd {x y : Int} (hx : -2000 ≤ x ∧ x ≤ 2000) (hy : -2000 ≤ y ∧ y ≤ 2000) : -4000000 ≤ x * y ∧ x * y ≤ 4000000 := by
  have h1 : x.natAbs ≤ 2000 := by omega
  have h2 : y.natAbs ≤ 2000 := by omega
  have h3 := Nat.mul_le_mul h1 h2
  rw [← Int.natAbs_mul] at h3
  omega
theorem turn_big {a b c : Pr} (ha : Bd a) (hb : Bd b) (hc : Bd c) : big (turnI a b c) := by
  obtain ⟨⟨a1, a2⟩, a3, a4⟩ := ha
  obtain ⟨⟨b1, b2⟩, b3, b4⟩ := hb
  obtain ⟨⟨c1, c2⟩, c3, c4⟩ := hc
  have h1 := mul_bd (x := b.1 - a.1) (y := c.2 - a.2) ⟨by omega, by omega⟩ ⟨by omega, by omega⟩
  have h2 := mul_bd (x := b.2 - a.2) (y := c.1 - a.1) ⟨by omega, by omega⟩ ⟨by omega, by omega⟩
  unfold turnI big
  omega
def zz (e0 e1 e2 e3 : Int) : Bool := !([PyData.int e0, .int e1, .int e2, .int e3].any fun y => PyData.eqv y (.int 0))
def far_ (a b c d : Pr) : Bool := decide (mx a.1 b.1 < mn c.1 d.1) || decide (mx c.1 d.1 < mn a.1 b.1)
def touchB (a b c d : Pr) : Bool := if far_ a b c d = true then false else if zz (turnI a b c) (turnI a b d) (turnI c d a) (turnI c d b) = true then decide (turnI a b c * turnI a b d < 0) && decide (turnI c d a * turnI c d b < 0) else (onB a b c || onB a b d) || (onB c d a || onB c d b)
theorem mVand_of {a b : mE} {env : Ev} {s : Tn} {p q : Bool} (h : a env s = some (.bool p, s)) (h2 : b env s = some (.bool q, s)) : mVand a b env s = some (.bool (p && q), s) := by
  unfold mVand
  rw [h]
  cases p with
  | false => rfl
  | true => exact h2
theorem mVor_of {a b : mE} {env : Ev} {s : Tn} {p q : Bool} (h : a env s = some (.bool p, s)) (h2 : b env s = some (.bool q, s)) : mVor a b env s = some (.bool (p || q), s) := by
  unfold mVor
  rw [h]
  cases p with
  | false => exact h2
  | true => rfl
theorem mBor_of {a b : mB} {env : Ev} {s : Tn} {p q : Bool} (h : a env s = some (p, s)) (h2 : b env s = some (q, s)) : mBor a b env s = some (p || q, s) := by
  unfold mBor
  rw [h]
  cases p with
  | false => exact h2
  | true => rfl
abbrev sideD (a b : Pr) : Dt := .tuple [enc a, enc b]
abbrev envQ4 (a b c d : Pr) (e : Option Dt) : Ev := [some (sideD a b), some (sideD c d), some (enc a), some (enc b), some (enc c), some (enc d), e]
theorem touch_is {a b c d : Pr} (ha : Bd a) (hb : Bd b) (hc : Bd c) (hd : Bd d) (s : Tn) : m_touch [sideD a b, sideD c d] s = some (.bool (touchB a b c d), s) := by
  have x : ∀ (e : Option Dt) (i : Nat) (p : Pr), mVar i (envQ4 a b c d e) s = some (enc p, s) → m2 dIx (mVar i) (mC (.int 0)) (envQ4 a b c d e) s = some (.int p.1, s) := fun e i p h =>
    m2_of h (show mC _ _ _ = some _ from rfl) (ix_enc0 p)
  have xa := x none 2 a rfl
  have xb := x none 3 b rfl
  have xc := x none 4 c rfl
  have xd := x none 5 d rfl
  have p1 : mAsg (mF dTup (mCons (mVar 0) (mCons (mVar 1) mNil))) (aTup 2 (aCons (aTup 2 (aCons (aName 2) (aCons (aName 3) aNil))) (aCons (aTup 2 (aCons (aName 4) (aCons (aName 5) aNil))) aNil))) (initE 7 [sideD a b, sideD c d]) s = some (.nx (envQ4 a b c d none), s) := rfl
  have hmx : ∀ {e : Ev} {p q : mE} {i j : Int}, p e s = some (.int i, s) → q e s = some (.int j, s) → mF dMax2 (mCons p (mCons q mNil)) e s = some (.int (mx i j), s) := fun h1 h2 => mF_of (mCons_of h1 (mCons_of h2 mNil_of)) rfl
  have hmn : ∀ {e : Ev} {p q : mE} {i j : Int}, p e s = some (.int i, s) → q e s = some (.int j, s) → mF dMin2 (mCons p (mCons q mNil)) e s = some (.int (mn i j), s) := fun h1 h2 => mF_of (mCons_of h1 (mCons_of h2 mNil_of)) rfl
  have p2 := mBor_of (mT_of (m2_of (f := dLt) (hmx xa xb) (hmn xc xd) rfl)) (mT_of (m2_of (f := dLt) (hmx xc xd) (hmn xa xb) rfl))
  have v2 : ∀ e, mVar 2 (envQ4 a b c d e) s = some (enc a, s) := fun _ => rfl
  have v3 : ∀ e, mVar 3 (envQ4 a b c d e) s = some (enc b, s) := fun _ => rfl
  have v4 : ∀ e, mVar 4 (envQ4 a b c d e) s = some (enc c, s) := fun _ => rfl
  have v5 : ∀ e, mVar 5 (envQ4 a b c d e) s = some (enc d, s) := fun _ => rfl
  have tn : ∀ (e : Option Dt) (i j k : Nat) (p q r : Pr), Bd p → Bd q → mVar i (envQ4 a b c d e) s = some (enc p, s) → mVar j (envQ4 a b c d e) s = some (enc q, s) → mVar k (envQ4 a b c d e) s = some (enc r, s) → mCall m_turn_in (mCons (mVar i) (mCons (mVar j) (mCons (mVar k) mNil))) (envQ4 a b c d e) s = some (.int (turnI p q r), s) := fun e i j k p q r hp hq h1 h2 h3 => mCall_of (mCons_of h1 (mCons_of h2 (mCons_of h3 mNil_of))) (turn_is hp hq s)
  have on : ∀ (e : Option Dt) (i j k : Nat) (p q r : Pr), Bd p → Bd q → mVar i (envQ4 a b c d e) s = some (enc p, s) → mVar j (envQ4 a b c d e) s = some (enc q, s) → mVar k (envQ4 a b c d e) s = some (enc r, s) → mCall m_is_on (mCons (mVar i) (mCons (mVar j) (mCons (mVar k) mNil))) (envQ4 a b c d e) s = some (.bool (onB p q r), s) := fun e i j k p q r hp hq h1 h2 h3 => mCall_of (mCons_of h1 (mCons_of h2 (mCons_of h3 mNil_of))) (on_is hp hq s)
  refine mFn_of rfl ((mSeq_nx p1).trans ?_)
  unfold touchB
  by_cases hf : far_ a b c d = true
  · rw [if_pos hf]
    have hf2 : (decide (mx a.1 b.1 < mn c.1 d.1) || decide (mx c.1 d.1 < mn a.1 b.1)) = true := hf
    rw [hf2] at p2
    exact mSeq_rt ((mIfS_t p2).trans (mRet_of (show mC _ _ _ = some _ from rfl)))
  · rw [if_neg hf]
    have hf2 : (decide (mx a.1 b.1 < mn c.1 d.1) || decide (mx c.1 d.1 < mn a.1 b.1)) = false := Bool.eq_false_iff.mpr hf
    rw [hf2] at p2
    refine (mSeq_nx ((mIfS_f p2).trans rfl)).trans ?_
    have E : Dt := .tuple [.int (turnI a b c), .int (turnI a b d), .int (turnI c d a), .int (turnI c d b)]
    refine (mSeq_nx (mAsg_of (mF_of (mCons_of (tn none 2 3 4 a b c ha hb rfl rfl rfl) (mCons_of (tn none 2 3 5 a b d ha hb rfl rfl rfl) (mCons_of (tn none 4 5 2 c d a hc hd rfl rfl rfl) (mCons_of (tn none 4 5 3 c d b hc hd rfl rfl rfl) mNil_of)))) (show dTup _ = some (.tuple [.int (turnI a b c), .int (turnI a b d), .int (turnI c d a), .int (turnI c d b)]) from rfl)) (show aName 6 _ _ = some (envQ4 a b c d (some (.tuple [.int (turnI a b c), .int (turnI a b d), .int (turnI c d a), .int (turnI c d b)]))) from rfl))).trans ?_
    have hz : mT (m2 dNotInS (mC (.int 0)) (mVar 6)) (envQ4 a b c d (some (.tuple [.int (turnI a b c), .int (turnI a b d), .int (turnI c d a), .int (turnI c d b)]))) s = some (zz (turnI a b c) (turnI a b d) (turnI c d a) (turnI c d b), s) := mT_of (m2_of (show mC _ _ _ = some _ from rfl) (show mVar 6 _ _ = some _ from rfl) rfl)
    have ix : ∀ (k : Nat) (e : Int), [PyData.int (turnI a b c), .int (turnI a b d), .int (turnI c d a), .int (turnI c d b)][k]? = some (.int e) → m2 dIx (mVar 6) (mC (.int (k : Int))) (envQ4 a b c d (some (.tuple [.int (turnI a b c), .int (turnI a b d), .int (turnI c d a), .int (turnI c d b)]))) s = some (.int e, s) := fun k e h => m2_of (show mVar 6 _ _ = some _ from rfl) (show mC _ _ _ = some _ from rfl) (show L2.atI _ _ = _ from atI_at h)
    by_cases hzz : zz (turnI a b c) (turnI a b d) (turnI c d a) (turnI c d b) = true
    · rw [if_pos hzz]
      rw [hzz] at hz
      have m1 : dMul (.int (turnI a b c)) (.int (turnI a b d)) = some (.int (turnI a b c * turnI a b d)) := by
        unfold dMul
        dsimp only
        rw [if_pos (.inl (turn_big ha hb hc))]
      have m2' : dMul (.int (turnI c d a)) (.int (turnI c d b)) = some (.int (turnI c d a * turnI c d b)) := by
        unfold dMul
        dsimp only
        rw [if_pos (.inl (turn_big hc hd ha))]
      exact mSeq_rt ((mIfS_t hz).trans (mRet_of (mVand_of (m2_of (m2_of (ix 0 _ rfl) (ix 1 _ rfl) m1) (show mC _ _ _ = some (.int 0, s) from rfl) rfl) (m2_of (m2_of (ix 2 _ rfl) (ix 3 _ rfl) m2') (show mC _ _ _ = some (.int 0, s) from rfl) rfl))))
    · rw [if_neg hzz]
      rw [Bool.eq_false_iff.mpr hzz] at hz
      refine (mSeq_nx ((mIfS_f hz).trans rfl)).trans ?_
      have ho := mBor_of (mT_of (on (some (.tuple [.int (turnI a b c), .int (turnI a b d), .int (turnI c d a), .int (turnI c d b)])) 2 3 4 a b c ha hb rfl rfl rfl)) (mT_of (on (some (.tuple [.int (turnI a b c), .int (turnI a b d), .int (turnI c d a), .int (turnI c d b)])) 2 3 5 a b d ha hb rfl rfl rfl))
      have ho2 := mVor_of (on (some (.tuple [.int (turnI a b c), .int (turnI a b d), .int (turnI c d a), .int (turnI c d b)])) 4 5 2 c d a hc hd rfl rfl rfl) (on (some (.tuple [.int (turnI a b c), .int (turnI a b d), .int (turnI c d a), .int (turnI c d b)])) 4 5 3 c d b hc hd rfl rfl rfl)
      cases hq : (onB a b c || onB a b d) with
      | true =>
        rw [hq] at ho
        exact mSeq_rt ((mIfS_t ho).trans (mRet_of (show mC _ _ _ = some _ from rfl)))
      | false =>
        rw [hq] at ho
        exact (mSeq_nx ((mIfS_f ho).trans rfl)).trans (mRet_of ho2)
end Md
-- My27
set_option Elab.async false
set_option linter.all false
set_option maxRecDepth 100000
set_option maxHeartbeats 4000000
/-! Shifts. -/
namespace Md
open PySem PySem.Spec PyProof.Rows L2
set_option autoImplicit false
def sh (x y : Int) (p : Pr) : Pr := (p.1 + x, p.2 + y)
section
variable {x y : Int} {a b c d : Pr}
theorem turn_sh : turnI (sh x y a) (sh x y b) (sh x y c) = turnI a b c := by
  show (b.1 + x - (a.1 + x)) * (c.2 + y - (a.2 + y)) - (b.2 + y - (a.2 + y)) * (c.1 + x - (a.1 + x)) = _
  rw [show b.1 + x - (a.1 + x) = b.1 - a.1 by omega, show c.2 + y - (a.2 + y) = c.2 - a.2 by omega, show b.2 + y - (a.2 + y) = b.2 - a.2 by omega, show c.1 + x - (a.1 + x) = c.1 - a.1 by omega]
  rfl
theorem mn_sh (i j x : Int) : mn (i + x) (j + x) = mn i j + x := by
  unfold mn
  split <;> split <;> omega
theorem mx_sh (i j x : Int) : mx (i + x) (j + x) = mx i j + x := by
  unfold mx
  split <;> split <;> omega
theorem le_sh (i j x : Int) : decide (i + x ≤ j + x) = decide (i ≤ j) := by
  by_cases h : i ≤ j
  · rw [decide_eq_true h, decide_eq_true (by omega)]
  · rw [decide_eq_false h, decide_eq_false (by omega)]
theorem lt_sh (i j x : Int) : decide (i + x < j + x) = decide (i < j) := by
  by_cases h : i < j
  · rw [decide_eq_true h, decide_eq_true (by omega)]
  · rw [decide_eq_false h, decide_eq_false (by omega)]
theorem betw_sh (i j d x : Int) : betw (i + x) (j + x) (d + x) = betw i j d := by
  unfold betw
  rw [mn_sh, mx_sh, le_sh, le_sh]
theorem on_sh : onB (sh x y a) (sh x y b) (sh x y d) = onB a b d := by
  unfold onB
  rw [turn_sh]
  show (decide (turnI a b d = 0) && (betw (a.1 + x) (b.1 + x) (d.1 + x) && betw (a.2 + y) (b.2 + y) (d.2 + y))) = _
  rw [betw_sh, betw_sh]
theorem far_sh : far_ (sh x y a) (sh x y b) (sh x y c) (sh x y d) = far_ a b c d := by
  show (decide (mx (a.1 + x) (b.1 + x) < mn (c.1 + x) (d.1 + x)) || decide (mx (c.1 + x) (d.1 + x) < mn (a.1 + x) (b.1 + x))) = _
  rw [mx_sh, mn_sh, mx_sh, mn_sh, lt_sh, lt_sh]
  rfl
theorem touch_sh : touchB (sh x y a) (sh x y b) (sh x y c) (sh x y d) = touchB a b c d := by
  unfold touchB
  rw [far_sh, turn_sh, turn_sh, turn_sh, turn_sh, on_sh, on_sh, on_sh, on_sh]
end
end Md
-- My28
set_option Elab.async false
set_option linter.all false
set_option maxRecDepth 100000
set_option maxHeartbeats 4000000
/-! are_corners: the loops. -/
namespace Md
open PySem PySem.Spec PyProof.Rows L2
set_option autoImplicit false
abbrev Sd := Pr × Pr
def sdD (q : Sd) : Dt := sideD q.1 q.2
def sidesP (ps : List Pr) : List Sd := ps.zip (ps.drop 1 ++ ps.take 1)
abbrev envC (dots : Dt) (n : Int) (sd : List Sd) (a b c d : Option Dt) : Ev := [some dots, some (.int n), some (.list (sd.map sdD)), a, b, c, d]
abbrev bodyC : mS := mIfS (mT (mCall m_touch (mCons (mVar 4) (mCons (m2 dIx (mVar 2) (mVar 5)) mNil)))) (mRet (mC (.bool false))) mNext
def BdS (q : Sd) : Prop := Bd q.1 ∧ Bd q.2
def tch (p q : Sd) : Bool := touchB p.1 p.2 q.1 q.2
theorem inner_loop {dots : Dt} {n : Int} {sd : List Sd} {a d : Option Dt} {near : Sd} {s : Tn} (hn : BdS near) (hb : ∀ q ∈ sd, BdS q) : ∀ (m : Nat) (lo : Nat) (c : Option Dt), (∀ j, j < m → ∃ q, sd[lo + j]? = some q ∧ tch near q = false) → ∃ c', mForL (aName 5) bodyC (rngL (lo : Int) m) (envC dots n sd a (some (sdD near)) c d) s = some (.nx (envC dots n sd a (some (sdD near)) c' d), s)
  | 0, lo, c, _ => ⟨c, rfl⟩
  | m + 1, lo, c, h => by
    obtain ⟨q, hq, ht⟩ := h 0 (Nat.succ_pos m)
    rw [Nat.add_zero] at hq
    have hqb := hb q (List.mem_of_getElem? hq)
    have hx : m2 dIx (mVar 2) (mVar 5) (envC dots n sd a (some (sdD near)) (some (.int (lo : Int))) d) s = some (sdD q, s) := m2_of (show mVar 2 _ _ = some (.list (sd.map sdD), s) from rfl) (show mVar 5 _ _ = some (.int (lo : Int), s) from rfl) (show L2.atI _ _ = _ from atI_at (by rw [List.getElem?_map, hq]; rfl))
    have hc : mT (mCall m_touch (mCons (mVar 4) (mCons (m2 dIx (mVar 2) (mVar 5)) mNil))) (envC dots n sd a (some (sdD near)) (some (.int (lo : Int))) d) s = some (false, s) := by
      rw [← ht]
      exact mT_of (mCall_of (mCons_of (show mVar 4 _ _ = some (sdD near, s) from rfl) (mCons_of hx mNil_of)) (touch_is hn.1 hn.2 hqb.1 hqb.2 s))
    have hb2 : bodyC (envC dots n sd a (some (sdD near)) (some (.int (lo : Int))) d) s = some (.nx (envC dots n sd a (some (sdD near)) (some (.int (lo : Int))) d), s) := (mIfS_f hc).trans rfl
    obtain ⟨c', ih⟩ := inner_loop (dots := dots) (n := n) (sd := sd) (a := a) (d := d) (s := s) hn hb m (lo + 1) (some (.int (lo : Int))) fun j hj => by
      have := h (j + 1) (Nat.succ_lt_succ hj)
      rw [show lo + 1 + j = lo + (j + 1) by omega]
      exact this
    refine ⟨c', ?_⟩
    show (match bodyC (envC dots n sd a (some (sdD near)) (some (.int (lo : Int))) d) s with
      | some (.nx e, s2) => mForL (aName 5) bodyC (rngL ((lo : Int) + 1) m) e s2
      | some (.ct e, s2) => mForL (aName 5) bodyC (rngL ((lo : Int) + 1) m) e s2
      | some (.bk e, s2) => some (.nx e, s2)
      | some (.rt d, s2) => some (.rt d, s2)
      | none => none) = _
    rw [hb2]
    dsimp only
    have e : ((lo + 1 : Nat) : Int) = (lo : Int) + 1 := by omega
    rw [e] at ih
    exact ih
end Md
-- My29
set_option Elab.async false
set_option linter.all false
set_option maxRecDepth 100000
set_option maxHeartbeats 4000000
/-! are_corners: the outer loop. -/
namespace Md
open PySem PySem.Spec PyProof.Rows L2
set_option autoImplicit false
abbrev rngC : mA := iRng2 (mCons (m2 dAdd (mVar 3) (mC (.int 2))) (mCons (m2 dSub (mVar 1) (mF dInt (mCons (m2 dEq (mVar 3) (mC (.int 0))) mNil))) mNil))
abbrev innC : mS := mFor rngC (aName 5) bodyC
/-- how many sides follow that must not touch the i-th of n -/
def cntC (n i : Nat) : Nat := n - (if i = 0 then 1 else 0) - (i + 2)
theorem rngC_is {dots : Dt} {n i : Nat} {sd : List Sd} {b c d : Option Dt} (hn : n ≤ 1000) (hi : i < n) (s : Tn) : rngC (envC dots (n : Int) sd (some (.int (i : Int))) b c d) s = some (rngL ((i + 2 : Nat) : Int) (cntC n i), s) := by
  have h1 : m2 dAdd (mVar 3) (mC (.int 2)) (envC dots (n : Int) sd (some (.int (i : Int))) b c d) s = some (.int ((i + 2 : Nat) : Int), s) := m2_of (show mVar 3 _ _ = some (.int (i : Int), s) from rfl) (show mC _ _ _ = some (.int 2, s) from rfl) (by rw [addI]; rfl)
  have h2 : mF dInt (mCons (m2 dEq (mVar 3) (mC (.int 0))) mNil) (envC dots (n : Int) sd (some (.int (i : Int))) b c d) s = some (.int (if i = 0 then 1 else 0), s) := by
    refine mF_of (mCons_of (m2_of (z := .bool (decide ((i : Int) = 0))) (show mVar 3 _ _ = some (.int (i : Int), s) from rfl) (show mC _ _ _ = some (.int 0, s) from rfl) rfl) mNil_of) ?_
    by_cases h : i = 0
    · rw [if_pos h, decide_eq_true (by omega)]
      rfl
    · rw [if_neg h, decide_eq_false (by omega)]
      rfl
  have h3 : m2 dSub (mVar 1) (mF dInt (mCons (m2 dEq (mVar 3) (mC (.int 0))) mNil)) (envC dots (n : Int) sd (some (.int (i : Int))) b c d) s = some (.int ((n : Int) - (if i = 0 then 1 else 0)), s) := m2_of (show mVar 1 _ _ = some (.int (n : Int), s) from rfl) h2 (subI _ _)
  have hs : (0 : Int) ≤ (if i = 0 then 1 else 0) ∧ (if i = 0 then (1 : Int) else 0) ≤ 1 := by split <;> decide
  show iRng2 _ _ _ = _
  unfold iRng2
  rw [mCons_of h1 (mCons_of h3 mNil_of)]
  dsimp only
  rw [if_pos ⟨⟨by omega, by omega⟩, ⟨by omega, by omega⟩⟩]
  have : ((n : Int) - (if i = 0 then 1 else 0) - ((i + 2 : Nat) : Int)).toNat = cntC n i := by
    unfold cntC
    split <;> omega
  rw [this]
theorem forL_nx {g : Dt → Ev → Option Ev} {t : mS} {d : Dt} {ds : List Dt} {env e e2 : Ev} {s s1 : Tn} (hg : g d env = some e) (h : t e s = some (.nx e2, s1)) : mForL g t (d :: ds) env s = mForL g t ds e2 s1 := by
  show (match g d env with
    | none => none
    | some e => match t e s with
      | some (.nx e, s2) => mForL g t ds e s2
      | some (.ct e, s2) => mForL g t ds e s2
      | some (.bk e, s2) => some (.nx e, s2)
      | some (.rt d, s2) => some (.rt d, s2)
      | none => none) = _
  rw [hg]
  dsimp only
  rw [h]
theorem mFor_of {i : mA} {g : Dt → Ev → Option Ev} {t : mS} {env : Ev} {s s1 : Tn} {ds : List Dt} (h : i env s = some (ds, s1)) : mFor i g t env s = mForL g t ds env s1 := by
  unfold mFor
  rw [h]
theorem inn_is {dots : Dt} {n i : Nat} {sd : List Sd} {b c d : Option Dt} {s : Tn} {R : Option (Fl × Tn)} (hn : n ≤ 1000) (hi : i < n) (h1 : mForL (aName 5) bodyC (rngL ((i + 2 : Nat) : Int) (cntC n i)) (envC dots (n : Int) sd (some (.int (i : Int))) b c d) s = R) : innC (envC dots (n : Int) sd (some (.int (i : Int))) b c d) s = R :=
  (mFor_of (rngC_is hn hi s)).trans h1
theorem zip_step (i : Nat) (near : Sd) (rest : List Sd) : zipD (rngL (i : Int) (near :: rest).length) ((near :: rest).map sdD) = .tuple [.int (i : Int), sdD near] :: zipD (rngL ((i + 1 : Nat) : Int) rest.length) (rest.map sdD) := by
  have e : ((i + 1 : Nat) : Int) = (i : Int) + 1 := by omega
  rw [e]
  rfl
end Md
-- My30
set_option Elab.async false
set_option linter.all false
set_option maxRecDepth 100000
set_option maxHeartbeats 4000000
/-! are_corners: the outer loop, whole. -/
namespace Md
open PySem PySem.Spec PyProof.Rows L2
set_option autoImplicit false
theorem outer_loop {dots : Dt} {n : Nat} {sd : List Sd} {d : Option Dt} {s : Tn} (hn : n ≤ 1000) (hb : ∀ q ∈ sd, BdS q) : ∀ (rest : List Sd) (i : Nat) (a b c : Option Dt), i + rest.length = n →
    (∀ j near, rest[j]? = some near → ∀ k, k < cntC n (i + j) → ∃ q, sd[i + j + 2 + k]? = some q ∧ tch near q = false) → (∀ q ∈ rest, BdS q) →
    ∃ a' b' c', mForL (aTup 2 (aCons (aName 3) (aCons (aName 4) aNil))) innC (zipD (rngL (i : Int) rest.length) (rest.map sdD)) (envC dots (n : Int) sd a b c d) s = some (.nx (envC dots (n : Int) sd a' b' c' d), s)
  | [], i, a, b, c, _, _, _ => ⟨a, b, c, rfl⟩
  | near :: rest, i, a, b, c, hi, h, hr => by
    rw [List.length_cons] at hi
    obtain ⟨c1, h1⟩ := inner_loop (dots := dots) (n := (n : Int)) (sd := sd) (a := some (.int (i : Int))) (d := d) (near := near) (s := s) (hr near List.mem_cons_self) hb (cntC n i) (i + 2) c (fun k hk => by
      have := h 0 near rfl k (by rw [Nat.add_zero]; exact hk)
      rw [Nat.add_zero] at this
      exact this)
    have hin := inn_is hn (by omega) h1
    obtain ⟨a', b', c', ih⟩ := outer_loop (dots := dots) (sd := sd) (d := d) (s := s) hn hb rest (i + 1) (some (.int (i : Int))) (some (sdD near)) c1 (by omega) (fun j nr hj k hk => by
      have := h (j + 1) nr hj k (by rw [show i + (j + 1) = i + 1 + j by omega]; exact hk)
      rw [show i + 1 + j + 2 + k = i + (j + 1) + 2 + k by omega]
      exact this) (fun q hq => hr q (List.mem_cons_of_mem _ hq))
    refine ⟨a', b', c', ?_⟩
    rw [zip_step, forL_nx (show aTup 2 (aCons (aName 3) (aCons (aName 4) aNil)) (.tuple [.int (i : Int), sdD near]) (envC dots (n : Int) sd a b c d) = some (envC dots (n : Int) sd (some (.int (i : Int))) (some (sdD near)) c d) from rfl) hin]
    exact ih
end Md
-- My31
set_option Elab.async false
set_option linter.all false
set_option maxRecDepth 100000
set_option maxHeartbeats 4000000
/-! are_corners of good points. -/
namespace Md
open PySem PySem.Spec PyProof.Rows L2
set_option autoImplicit false
theorem atI_map {α β : Type} (f : α → β) (xs : List α) (i : Int) : L2.atI (xs.map f) i = (L2.atI xs i).map f := by
  unfold L2.atI
  rw [List.length_map]
  cases L2.ixN xs.length i with
  | none => rfl
  | some j => exact List.getElem?_map
theorem addT {a b : List Dt} (h : a.length + b.length ≤ line) : dAdd (.tuple a) (.tuple b) = some (.tuple (a ++ b)) := by
  unfold dAdd
  dsimp only
  rw [if_pos h]
theorem turned_is (ps : List Pr) (hl : ps.length ≤ 1000) {env : Ev} {s : Tn} (h : mVar 0 env s = some (.tuple (ps.map enc), s)) : m2 dAdd (mSl (mVar 0) (oSome (mC (.int 1))) oNone) (mSl (mVar 0) oNone (oSome (mC (.int 1)))) env s = some (.tuple ((ps.drop 1 ++ ps.take 1).map enc), s) := by
  refine m2_of (mSl_of h (oSome_of (show mC _ _ _ = some (.int ((1 : Nat) : Int), s) from rfl)) oNone_of (z := .tuple ((ps.drop 1).map enc)) ?_) (mSl_of h oNone_of (oSome_of (show mC _ _ _ = some (.int ((1 : Nat) : Int), s) from rfl)) (z := .tuple ((ps.take 1).map enc)) ?_) ?_
  · show some (PyData.tuple (cutD (ps.map enc) (some ((1 : Nat) : Int)) none)) = _
    rw [cut_drop, List.map_drop]
  · show some (PyData.tuple (cutD (ps.map enc) none (some ((1 : Nat) : Int)))) = _
    rw [cut_take, List.map_take]
  · rw [addT (by rw [List.length_map, List.length_map, List.length_drop, List.length_take]; show _ ≤ 16777216; omega), List.map_append]
theorem zip_sides : ∀ (a b : List Pr), List.zipWith (fun x y => PyData.tuple [x, y]) (a.map enc) (b.map enc) = (a.zip b).map sdD
  | [], _ => rfl
  | _ :: _, [] => rfl
  | x :: a, y :: b => by
    show PyData.tuple [enc x, enc y] :: List.zipWith (fun x y => PyData.tuple [x, y]) (a.map enc) (b.map enc) = sdD (x, y) :: (a.zip b).map sdD
    rw [zip_sides a b]
    rfl
theorem sides_is (ps : List Pr) (hl : ps.length ≤ 1000) (s : Tn) : m_sides_of [.tuple (ps.map enc)] s = some (.list ((sidesP ps).map sdD), s) := by
  refine mFn_of rfl (mRet_of (mF_of (mCons_of (show mVar 0 _ _ = some (.tuple (ps.map enc), s) from rfl) (mCons_of (turned_is ps hl (show mVar 0 _ _ = some (.tuple (ps.map enc), s) from rfl)) mNil_of)) ?_))
  show some (PyData.list (List.zipWith (fun x y => PyData.tuple [x, y]) (ps.map enc) ((ps.drop 1 ++ ps.take 1).map enc))) = _
  rw [zip_sides]
  rfl
abbrev turnC : mE := m2 dEq (mCall m_turn_in (mCons (m2 dIx (mVar 0) (m2 dSub (mVar 6) (mC (.int 2)))) (mCons (m2 dIx (mVar 0) (m2 dSub (mVar 6) (mC (.int 1)))) (mCons (m2 dIx (mVar 0) (mVar 6)) mNil)))) (mC (.int 0))
def TurnsOk (ps : List Pr) : Prop := ∀ k, k < ps.length → ∃ a b c, L2.atI ps ((k : Int) - 2) = some a ∧ L2.atI ps ((k : Int) - 1) = some b ∧ ps[k]? = some c ∧ turnI a b c ≠ 0
theorem atI_mem {α : Type} {xs : List α} {i : Int} {x : α} (h : L2.atI xs i = some x) : x ∈ xs := by
  unfold L2.atI at h
  cases hj : L2.ixN xs.length i with
  | none =>
    rw [hj] at h
    cases h
  | some j =>
    rw [hj] at h
    exact List.mem_of_getElem? h
theorem turns_loopC {ps : List Pr} (hb : ∀ p ∈ ps, Bd p) (ht : TurnsOk ps) {x1 x2 : Dt} {s : Tn} : ∀ (m lo : Nat), lo + m ≤ ps.length → mLcL (aName 6) [6] turnC (rngL (lo : Int) m) [some (.tuple (ps.map enc)), some x1, some x2, none, none, none, none] s = some ((List.replicate m (.bool false) : List Dt), s)
  | 0, _, _ => rfl
  | m + 1, lo, hl => by
    obtain ⟨a, b, c, h1, h2, h3, h4⟩ := ht lo (by omega)
    have v0 : mVar 0 [some (.tuple (ps.map enc)), some x1, some x2, none, none, none, some (.int (lo : Int))] s = some (.tuple (ps.map enc), s) := rfl
    have v6 : mVar 6 [some (.tuple (ps.map enc)), some x1, some x2, none, none, none, some (.int (lo : Int))] s = some (.int (lo : Int), s) := rfl
    have g : ∀ (i : Int) (p : Pr), L2.atI ps i = some p → dIx (.tuple (ps.map enc)) (.int i) = some (enc p) := fun i p h => by
      show L2.atI (ps.map enc) i = _
      rw [atI_map, h]
      rfl
    have hd : decide (turnI a b c = 0) = false := decide_eq_false h4
    have hb1 : turnC [some (.tuple (ps.map enc)), some x1, some x2, none, none, none, some (.int (lo : Int))] s = some (.bool false, s) := by
      rw [← hd]
      exact m2_of (mCall_of (mCons_of (m2_of v0 (m2_of v6 (show mC _ _ _ = some (.int 2, s) from rfl) (subI _ _)) (g _ a h1)) (mCons_of (m2_of v0 (m2_of v6 (show mC _ _ _ = some (.int 1, s) from rfl) (subI _ _)) (g _ b h2)) (mCons_of (m2_of v0 v6 (g _ c (atI_at h3))) mNil_of))) (turn_is (hb a (atI_mem h1)) (hb b (atI_mem h2)) s)) (show mC _ _ _ = some (.int 0, s) from rfl) rfl
    have ih := turns_loopC hb ht (x1 := x1) (x2 := x2) (s := s) m (lo + 1) (by omega)
    have e : ((lo + 1 : Nat) : Int) = (lo : Int) + 1 := by omega
    rw [e] at ih
    have st : mLcL (aName 6) [6] turnC (rngL (lo : Int) (m + 1)) [some (.tuple (ps.map enc)), some x1, some x2, none, none, none, none] s = (match turnC [some (.tuple (ps.map enc)), some x1, some x2, none, none, none, some (.int (lo : Int))] s with
      | none => none
      | some (z, s1) => match mLcL (aName 6) [6] turnC (rngL ((lo : Int) + 1) m) [some (.tuple (ps.map enc)), some x1, some x2, none, none, none, none] s1 with
        | none => none
        | some (zs, s2) => some (z :: zs, s2)) := rfl
    rw [st, hb1]
    dsimp only
    rw [ih]
    rfl
theorem bools_false : ∀ m : Nat, bools? (List.replicate m (.bool false)) = some (List.replicate m false)
  | 0 => rfl
  | m + 1 => by
    show (match bools? (List.replicate m (.bool false)) with
      | some l => some (false :: l)
      | none => none) = _
    rw [bools_false m]
    rfl
theorem any_false : ∀ m : Nat, (List.replicate m false).any id = false
  | 0 => rfl
  | m + 1 => any_false m
theorem any_tinF : ∀ m : Nat, (List.replicate m (PyData.bool false)).any isTin = false
  | 0 => rfl
  | m + 1 => any_tinF m
def TouchOk (ps : List Pr) : Prop := ∀ j near, (sidesP ps)[j]? = some near → ∀ k, k < cntC ps.length j → ∃ q, (sidesP ps)[j + 2 + k]? = some q ∧ tch near q = false
theorem sides_len (ps : List Pr) : (sidesP ps).length = ps.length := by
  unfold sidesP
  rw [List.length_zip, List.length_append, List.length_drop, List.length_take]
  omega
theorem sides_bd {ps : List Pr} (hb : ∀ p ∈ ps, Bd p) : ∀ q ∈ sidesP ps, BdS q := fun q hq => by
  obtain ⟨a, b⟩ := q
  have h := List.of_mem_zip hq
  refine ⟨hb a h.1, hb b ?_⟩
  rcases List.mem_append.mp h.2 with h2 | h2
  · exact List.mem_of_mem_drop h2
  · exact List.mem_of_mem_take h2
theorem corners_is {ps : List Pr} (hb : ∀ p ∈ ps, Bd p) (h3 : 3 ≤ ps.length) (hl : ps.length ≤ 1000) (ht : TurnsOk ps) (hc : TouchOk ps) (s : Tn) : m_are_corners [.tuple (ps.map enc)] s = some (.bool true, s) := by
  have p1 : mPar 1 2 (mCons (mF dLen (mCons (mVar 0) mNil)) (mCons (mCall m_sides_of (mCons (mVar 0) mNil)) mNil)) (initE 7 [.tuple (ps.map enc)]) s = some (.nx (envC (.tuple (ps.map enc)) (ps.length : Int) (sidesP ps) none none none none), s) := by
    unfold mPar
    rw [mCons_of (mF_of (mCons_of (show mVar 0 _ _ = some (.tuple (ps.map enc), s) from rfl) mNil_of) (show dLen [.tuple (ps.map enc)] = some (.int (ps.length : Int)) by
      show some (PyData.int ((ps.map enc).length : Int)) = _
      rw [List.length_map])) (mCons_of (mCall_of (mCons_of (show mVar 0 _ _ = some (.tuple (ps.map enc), s) from rfl) mNil_of) (sides_is ps hl s)) mNil_of)]
    rfl
  have c1 : mT (m2 dLt (mVar 1) (mC (.int 3))) (envC (.tuple (ps.map enc)) (ps.length : Int) (sidesP ps) none none none none) s = some (false, s) := by
    have hd : decide ((ps.length : Int) < 3) = false := decide_eq_false (by omega)
    rw [← hd]
    exact mT_of (m2_of (show mVar 1 _ _ = some (.int (ps.length : Int), s) from rfl) (show mC _ _ _ = some (.int 3, s) from rfl) rfl)
  have hr : iRng1 (mCons (mVar 1) mNil) (envC (.tuple (ps.map enc)) (ps.length : Int) (sidesP ps) none none none none) s = some (rngL ((0 : Nat) : Int) ps.length, s) := by
    unfold iRng1
    rw [mCons_of (show mVar 1 _ _ = some (.int (ps.length : Int), s) from rfl) mNil_of]
    dsimp only
    rw [if_pos (show smallI (ps.length : Int) from ⟨by omega, by omega⟩), Int.toNat_natCast]
    rfl
  have c2 : mT (mF dAny (mCons (mLc (iRng1 (mCons (mVar 1) mNil)) (aName 6) [6] turnC) mNil)) (envC (.tuple (ps.map enc)) (ps.length : Int) (sidesP ps) none none none none) s = some (false, s) :=
    mT_of (mF_of (mCons_of (lc_of hr (turns_loopC hb ht ps.length 0 (by omega)) (any_tinF _) (by rw [List.length_replicate]; omega)) mNil_of) (show dAny [.list (List.replicate ps.length (.bool false))] = some (.bool false) by
      unfold dAny
      dsimp only
      rw [bools_false]
      dsimp only
      rw [any_false]))
  obtain ⟨a', b', c', h4⟩ := outer_loop (dots := .tuple (ps.map enc)) (n := ps.length) (sd := sidesP ps) (d := none) (s := s) hl (sides_bd hb) (sidesP ps) 0 none none none (by rw [sides_len, Nat.zero_add]) (fun j near hj k hk => by
    rw [Nat.zero_add] at hk ⊢
    exact hc j near hj k hk) (sides_bd hb)
  have he : iEn (mCons (mVar 2) mNil) (envC (.tuple (ps.map enc)) (ps.length : Int) (sidesP ps) none none none none) s = some (zipD (rngL ((0 : Nat) : Int) (sidesP ps).length) ((sidesP ps).map sdD), s) := by
    unfold iEn
    rw [mCons_of (show mVar 2 _ _ = some (.list ((sidesP ps).map sdD), s) from rfl) mNil_of]
    dsimp only
    rw [List.length_map]
    rfl
  exact mFn_of rfl ((mSeq_nx p1).trans ((mSeq_nx ((mIfS_f ((mBor_f c1).trans c2)).trans rfl)).trans ((mSeq_nx ((mFor_of he).trans h4)).trans (mRet_of (show mC _ _ _ = some _ from rfl)))))
end Md
-- My32
set_option Elab.async false
set_option linter.all false
set_option maxRecDepth 100000
set_option maxHeartbeats 4000000
/-! area_in, told_round of good points. -/
namespace Md
open PySem PySem.Spec PyProof.Rows L2
set_option autoImplicit false
def crossP (q : Sd) : Int := q.1.1 * q.2.2 - q.1.2 * q.2.1
abbrev crossE : mE := m2 dSub (m2 dMul (m2 dIx (mVar 2) (mC (.int 0))) (m2 dIx (mVar 3) (mC (.int 1)))) (m2 dMul (m2 dIx (mVar 2) (mC (.int 1))) (m2 dIx (mVar 3) (mC (.int 0))))
abbrev asgQ : Dt → Ev → Option Ev := aTup 2 (aCons (aName 2) (aCons (aName 3) aNil))
theorem mulB {i j : Int} (h : big i) : dMul (.int i) (.int j) = some (.int (i * j)) := by
  unfold dMul
  dsimp only
  rw [if_pos (.inl h)]
theorem Bd.big1 {p : Pr} (h : Bd p) : big p.1 := by
  obtain ⟨⟨a, b⟩, _⟩ := h
  exact ⟨by omega, by omega⟩
theorem Bd.big2 {p : Pr} (h : Bd p) : big p.2 := by
  obtain ⟨_, a, b⟩ := h
  exact ⟨by omega, by omega⟩
theorem cross_is {a b : Option Dt} {q : Sd} (hq : BdS q) (s : Tn) : crossE [a, b, some (enc q.1), some (enc q.2)] s = some (.int (crossP q), s) := by
  have v2 : mVar 2 [a, b, some (enc q.1), some (enc q.2)] s = some (enc q.1, s) := rfl
  have v3 : mVar 3 [a, b, some (enc q.1), some (enc q.2)] s = some (enc q.2, s) := rfl
  exact m2_of (m2_of (m2_of v2 (show mC _ _ _ = some _ from rfl) (ix_enc0 _)) (m2_of v3 (show mC _ _ _ = some _ from rfl) (ix_enc1 _)) (mulB hq.1.big1)) (m2_of (m2_of v2 (show mC _ _ _ = some _ from rfl) (ix_enc1 _)) (m2_of v3 (show mC _ _ _ = some _ from rfl) (ix_enc0 _)) (mulB hq.1.big2)) (subI _ _)
theorem lcL_cons {g : Dt → Ev → Option Ev} {vs : List Nat} {t : mE} {d z : Dt} {ds zs : List Dt} {env e : Ev} {s s1 s2 : Tn} (h1 : g d (wipeE env vs) = some e) (h2 : t e s = some (z, s1)) (h3 : mLcL g vs t ds env s1 = some (zs, s2)) : mLcL g vs t (d :: ds) env s = some (z :: zs, s2) := by
  unfold mLcL
  rw [h1]
  dsimp only
  rw [h2]
  dsimp only
  rw [h3]
theorem cross_loop {a b : Option Dt} {s : Tn} : ∀ (sd : List Sd), (∀ q ∈ sd, BdS q) → mLcL asgQ [2, 3] crossE (sd.map sdD) [a, b, none, none] s = some (sd.map fun q => PyData.int (crossP q), s)
  | [], _ => rfl
  | q :: sd, h => lcL_cons (show asgQ (sdD q) (wipeE [a, b, none, none] [2, 3]) = some [a, b, some (enc q.1), some (enc q.2)] from rfl) (cross_is (h q List.mem_cons_self) s) (cross_loop sd fun z hz => h z (List.mem_cons_of_mem _ hz))
theorem ints_map {α : Type} (f : α → Int) : ∀ l : List α, ints? (l.map fun q => PyData.int (f q)) = some (l.map f)
  | [] => rfl
  | q :: l => by
    show (match ints? (l.map fun q => PyData.int (f q)) with
      | some l => some (f q :: l)
      | none => none) = _
    rw [ints_map f l]
    rfl
theorem no_tinI {α : Type} (f : α → Int) : ∀ l : List α, (l.map fun q => PyData.int (f q)).any isTin = false
  | [] => rfl
  | q :: l => no_tinI f l
def areaP (ps : List Pr) : Int := ((sidesP ps).map crossP).sum
theorem sum_is (ps : List Pr) : dSum [.list ((sidesP ps).map fun q => PyData.int (crossP q))] = some (.int (areaP ps)) := by
  unfold dSum
  dsimp only
  rw [ints_map]
  rfl
theorem zipD_sides : ∀ (a b : List Pr), zipD (a.map enc) (b.map enc) = (a.zip b).map sdD
  | [], _ => by simp [zipD]
  | _ :: _, [] => by simp [zipD]
  | x :: a, y :: b => by
    show PyData.tuple [enc x, enc y] :: zipD (a.map enc) (b.map enc) = sdD (x, y) :: (a.zip b).map sdD
    rw [zipD_sides a b]
    rfl
theorem area_is {ps : List Pr} (hb : ∀ p ∈ ps, Bd p) (hl : ps.length ≤ 1000) (s : Tn) : m_area_in [.tuple (ps.map enc)] s = some (.int (areaP ps), s) := by
  have hz : iZp (mCons (mVar 0) (mCons (mVar 1) mNil)) [some (.tuple (ps.map enc)), some (.tuple ((ps.drop 1 ++ ps.take 1).map enc)), none, none] s = some ((sidesP ps).map sdD, s) := by
    unfold iZp
    rw [mCons_of (show mVar 0 _ _ = some (.tuple (ps.map enc), s) from rfl) (mCons_of (show mVar 1 _ _ = some (.tuple ((ps.drop 1 ++ ps.take 1).map enc), s) from rfl) mNil_of)]
    dsimp only
    rw [zipD_sides]
    rfl
  refine mFn_of rfl ((mSeq_nx (mAsg_of (turned_is ps hl (show mVar 0 _ _ = some (.tuple (ps.map enc), s) from rfl)) rfl)).trans (mRet_of ?_))
  exact mF_of (mCons_of (lc_of hz (cross_loop _ (sides_bd hb)) (no_tinI _ _) (by rw [List.length_map, sides_len]; omega)) mNil_of) (sum_is ps)
/-! the same of lists -/
theorem addLs {a b : List Dt} (h : a.length + b.length ≤ line) : dAdd (.list a) (.list b) = some (.list (a ++ b)) := by
  unfold dAdd
  dsimp only
  rw [if_pos h]
theorem cutL_is (ps : List Pr) (k : Nat) (hl : ps.length ≤ 1000) {i j : mE} {env : Ev} {s : Tn} (h : mVar 0 env s = some (.list (ps.map enc), s)) (hi : i env s = some (.int (k : Int), s)) (hj : j env s = some (.int (k : Int), s)) : m2 dAdd (mSl (mVar 0) (oSome i) oNone) (mSl (mVar 0) oNone (oSome j)) env s = some (.list ((ps.drop k ++ ps.take k).map enc), s) := by
  refine m2_of (mSl_of h (oSome_of hi) oNone_of (z := .list ((ps.drop k).map enc)) ?_) (mSl_of h oNone_of (oSome_of hj) (z := .list ((ps.take k).map enc)) ?_) ?_
  · show some (PyData.list (cutD (ps.map enc) (some (k : Int)) none)) = _
    rw [cut_drop, List.map_drop]
  · show some (PyData.list (cutD (ps.map enc) none (some (k : Int)))) = _
    rw [cut_take, List.map_take]
  · rw [addLs (by rw [List.length_map, List.length_map, List.length_drop, List.length_take]; show _ ≤ 16777216; omega), List.map_append]
theorem round_is (ps : List Pr) (hl : ps.length ≤ 1000) (s : Tn) : m_law_pairs_round [.list (ps.map enc)] s = some (.list ((sidesP ps).map sdD), s) := by
  refine mFn_of rfl (mRet_of (mF_of (mCons_of (show mVar 0 _ _ = some (.list (ps.map enc), s) from rfl) (mCons_of (cutL_is ps 1 hl (show mVar 0 _ _ = some (.list (ps.map enc), s) from rfl) (show mC _ _ _ = some (.int ((1 : Nat) : Int), s) from rfl) (show mC _ _ _ = some (.int ((1 : Nat) : Int), s) from rfl)) mNil_of)) ?_))
  show some (PyData.list (List.zipWith (fun x y => PyData.tuple [x, y]) (ps.map enc) ((ps.drop 1 ++ ps.take 1).map enc))) = _
  rw [zip_sides]
  rfl
def turnR (ps : List Pr) : List Pr := if areaP ps < 0 then ps.reverse else ps
theorem min1_is (p : Pr) (r : List Pr) : dMin1 [.list ((p :: r).map enc)] = some (enc (minP p r)) := by
  unfold dMin1
  dsimp only
  rw [pairs_map]
theorem min1T_is (p : Pr) (r : List Pr) : dMin1 [.tuple ((p :: r).map enc)] = some (enc (minP p r)) := by
  unfold dMin1
  dsimp only
  rw [pairs_map]
theorem lindex_is {ps : List Pr} {m : Pr} {k : Nat} (hl : ps.length ≤ 1000) (h : ps.findIdx? (fun q => q == m) = some k) : dLIndex (.list (ps.map enc)) (enc m) = some (.int (k : Nat)) := by
  obtain ⟨a, b⟩ := m
  show dLIndex (.list (ps.map enc)) (.tuple [.int a, .int b]) = _
  unfold dLIndex
  dsimp only
  rw [pairs_map]
  dsimp only
  rw [h]
  dsimp only
  rw [if_pos (show ps.length ≤ 16777216 by omega)]
theorem revL_is {ps : List Pr} {env : Ev} {s : Tn} (h : mVar 0 env s = some (.list (ps.map enc), s)) : m1 dRev (mVar 0) env s = some (.list (ps.reverse.map enc), s) :=
  m1_of h (by show some (PyData.list (ps.map enc).reverse) = _; rw [List.map_reverse])
theorem told_is {ps : List Pr} {p : Pr} {r : List Pr} {k : Nat} (hb : ∀ p ∈ ps, Bd p) (hl : ps.length ≤ 1000) (ht : turnR ps = p :: r) (hk : (p :: r).findIdx? (fun q => q == minP p r) = some k) (s : Tn) : m_law_told_round [.list (ps.map enc)] s = some (.tuple (((p :: r).drop k ++ (p :: r).take k).map enc), s) := by
  have hc : mCall m_law_pairs_round (mCons (mVar 0) mNil) [some (.list (ps.map enc)), none, none, none] s = some (.list ((sidesP ps).map sdD), s) := mCall_of (mCons_of (show mVar 0 _ _ = some (.list (ps.map enc), s) from rfl) mNil_of) (round_is ps hl s)
  have hi : iL (mCall m_law_pairs_round (mCons (mVar 0) mNil)) [some (.list (ps.map enc)), none, none, none] s = some ((sidesP ps).map sdD, s) := by
    unfold iL
    rw [hc]
  have t1 : mT (m2 dLt (mF dSum (mCons (mLc (iL (mCall m_law_pairs_round (mCons (mVar 0) mNil))) asgQ [2, 3] crossE) mNil)) (mC (.int 0))) [some (.list (ps.map enc)), none, none, none] s = some (decide (areaP ps < 0), s) :=
    mT_of (m2_of (mF_of (mCons_of (lc_of hi (cross_loop _ (sides_bd hb)) (no_tinI _ _) (by rw [List.length_map, sides_len]; omega)) mNil_of) (sum_is ps)) (show mC _ _ _ = some (.int 0, s) from rfl) rfl)
  have hlen : (p :: r).length ≤ 1000 := by
    rw [← ht]
    unfold turnR
    split
    · rw [List.length_reverse]
      exact hl
    · exact hl
  have tail : ∀ x : Dt, x = .list ((p :: r).map enc) → (mSeq (mAsg (m2 dLIndex (mVar 0) (mF dMin1 (mCons (mVar 0) mNil))) (aName 1)) (mRet (mF dTuple (mCons (m2 dAdd (mSl (mVar 0) (oSome (mVar 1)) oNone) (mSl (mVar 0) oNone (oSome (mVar 1)))) mNil)))) [some x, none, none, none] s = some (.rt (.tuple (((p :: r).drop k ++ (p :: r).take k).map enc)), s) := by
    rintro x rfl
    have v0 : ∀ e, mVar 0 [some (PyData.list ((p :: r).map enc)), e, none, none] s = some (.list ((p :: r).map enc), s) := fun _ => rfl
    refine (mSeq_nx (mAsg_of (m2_of (v0 _) (mF_of (mCons_of (v0 _) mNil_of) (min1_is p r)) (lindex_is hlen hk)) (show aName 1 _ _ = some [some (PyData.list ((p :: r).map enc)), some (.int (k : Nat)), none, none] from rfl))).trans (mRet_of ?_)
    exact mF_of (mCons_of (cutL_is (p :: r) k hlen (v0 _) (show mVar 1 _ _ = some (.int (k : Nat), s) from rfl) (show mVar 1 _ _ = some (.int (k : Nat), s) from rfl)) mNil_of) rfl
  refine mFn_of rfl ?_
  unfold turnR at ht
  by_cases h0 : areaP ps < 0
  · rw [decide_eq_true h0] at t1
    rw [if_pos h0] at ht
    refine (mSeq_nx ((mIfS_t t1).trans (mAsg_of (revL_is (show mVar 0 _ _ = some (.list (ps.map enc), s) from rfl)) rfl))).trans (tail _ ?_)
    rw [ht]
  · rw [decide_eq_false h0] at t1
    rw [if_neg h0] at ht
    refine (mSeq_nx ((mIfS_f t1).trans rfl)).trans (tail _ ?_)
    rw [ht]
end Md
-- My33
set_option Elab.async false
set_option linter.all false
set_option maxRecDepth 100000
set_option maxHeartbeats 4000000
/-! is_field of good points; what a shift leaves. -/
namespace Md
open PySem PySem.Spec PyProof.Rows L2
set_option autoImplicit false
theorem dot_is (p : Pr) (s : Tn) : m_is_dot [enc p] s = some (.bool true, s) := rfl
theorem dots_loop {a : Option Dt} {s : Tn} : ∀ ps : List Pr, mLcL (aName 1) [1] (mCall m_is_dot (mCons (mVar 1) mNil)) (ps.map enc) [a, none] s = some (List.replicate ps.length (.bool true), s)
  | [] => rfl
  | p :: ps => lcL_cons (show aName 1 (enc p) (wipeE [a, none] [1]) = some [a, some (enc p)] from rfl) (mCall_of (mCons_of (show mVar 1 _ _ = some (enc p, s) from rfl) mNil_of) (dot_is p s)) (dots_loop ps)
theorem boolsT_ : ∀ m : Nat, bools? (List.replicate m (.bool true)) = some (List.replicate m true)
  | 0 => rfl
  | m + 1 => by
    show (match bools? (List.replicate m (.bool true)) with
      | some l => some (true :: l)
      | none => none) = _
    rw [boolsT_ m]
    rfl
theorem allT_ : ∀ m : Nat, (List.replicate m true).all id = true
  | 0 => rfl
  | m + 1 => allT_ m
theorem any_tinT : ∀ m : Nat, (List.replicate m (PyData.bool true)).any isTin = false
  | 0 => rfl
  | m + 1 => any_tinT m
theorem all_is (m : Nat) : dAll [.list (List.replicate m (.bool true))] = some (.bool true) := by
  unfold dAll
  dsimp only
  rw [boolsT_]
  dsimp only
  rw [allT_]
theorem eq_enc (p : Pr) : dEq (enc p) (enc p) = some (.bool true) := by
  have h := eqv_enc p p
  rw [beq_self_eq_true] at h
  unfold enc at h ⊢
  unfold dEq
  dsimp only
  rw [h]
  rfl
theorem nub_of_nodup : ∀ ps : List Pr, ps.Nodup → nub ps = ps
  | [], _ => rfl
  | p :: ps, h => by
    have h := List.nodup_cons.mp h
    unfold nub
    rw [nub_of_nodup ps h.2]
    rw [if_neg (by simpa using h.1)]
structure FieldOk (ps : List Pr) : Prop where
  bd : ∀ p ∈ ps, Bd p
  l3 : 3 ≤ ps.length
  l6 : ps.length ≤ 6
  nd : ps.Nodup
  tn : TurnsOk ps
  tc : TouchOk ps
  ar : 0 < areaP ps
  mn : ∃ p r, ps = p :: r ∧ minP p r = p
theorem field_is {ps : List Pr} (h : FieldOk ps) (s : Tn) : m_is_field [.tuple (ps.map enc)] s = some (.bool true, s) := by
  have l6 := h.l6
  have v0 : mVar 0 [some (.tuple (ps.map enc)), none] s = some (.tuple (ps.map enc), s) := rfl
  have t1 : mBnot (mT (m1 dIsTup (mVar 0))) [some (.tuple (ps.map enc)), none] s = some (false, s) := mBnot_of (b := true) (mT_of (m1_of v0 rfl))
  have hi : iT (mVar 0) [some (.tuple (ps.map enc)), none] s = some (ps.map enc, s) := rfl
  have t2 : mBnot (mT (mF dAll (mCons (mLc (iT (mVar 0)) (aName 1) [1] (mCall m_is_dot (mCons (mVar 1) mNil))) mNil))) [some (.tuple (ps.map enc)), none] s = some (false, s) :=
    mBnot_of (b := true) (mT_of (mF_of (mCons_of (lc_of hi (dots_loop ps) (any_tinT _) (by rw [List.length_replicate]; omega)) mNil_of) (all_is _)))
  have hs : dLenSet [.tuple (ps.map enc)] = some (.int (ps.length : Nat)) := by
    unfold dLenSet
    dsimp only
    rw [pairs_map]
    dsimp only
    rw [if_pos (by omega), nub_of_nodup ps h.nd]
  have hl : dLen [.tuple (ps.map enc)] = some (.int (ps.length : Int)) := by
    show some (PyData.int ((ps.map enc).length : Int)) = _
    rw [List.length_map]
  have t3 : mT (m2 dLt (mF dLenSet (mCons (mVar 0) mNil)) (mF dLen (mCons (mVar 0) mNil))) [some (.tuple (ps.map enc)), none] s = some (false, s) := by
    have hd : decide (((ps.length : Nat) : Int) < (ps.length : Int)) = false := decide_eq_false (by omega)
    rw [← hd]
    exact mT_of (m2_of (mF_of (mCons_of v0 mNil_of) hs) (mF_of (mCons_of v0 mNil_of) hl) rfl)
  have r1 : mCall m_are_corners (mCons (mVar 0) mNil) [some (.tuple (ps.map enc)), none] s = some (.bool true, s) := mCall_of (mCons_of v0 mNil_of) (corners_is h.bd h.l3 (by omega) h.tn h.tc s)
  have r2 : m2 dGt (mCall m_area_in (mCons (mVar 0) mNil)) (mC (.int 0)) [some (.tuple (ps.map enc)), none] s = some (.bool true, s) := by
    have hd : decide ((0 : Int) < areaP ps) = true := decide_eq_true h.ar
    rw [← hd]
    exact m2_of (mCall_of (mCons_of v0 mNil_of) (area_is h.bd (by omega) s)) (show mC _ _ _ = some (.int 0, s) from rfl) rfl
  have r3 : m2 dEq (m2 dIx (mVar 0) (mC (.int 0))) (mF dMin1 (mCons (mVar 0) mNil)) [some (.tuple (ps.map enc)), none] s = some (.bool true, s) := by
    obtain ⟨p, r, e, hm⟩ := h.mn
    have hx : dIx (.tuple (ps.map enc)) (.int 0) = some (enc p) := by
      rw [e]
      exact atI_at (k := 0) rfl
    have hmn : dMin1 [.tuple (ps.map enc)] = some (enc p) := by
      rw [e, min1T_is, hm]
    exact m2_of (m2_of v0 (show mC _ _ _ = some (.int 0, s) from rfl) hx) (mF_of (mCons_of v0 mNil_of) hmn) (eq_enc p)
  refine mFn_of rfl ((mSeq_nx ((mIfS_f ((mBor_f t1).trans ((mBor_f t2).trans t3))).trans rfl)).trans (mRet_of ?_))
  exact mVand_of (p := true) (q := true) r1 (mVand_of (p := true) (q := true) r2 r3)
/-! shifts -/
section
variable {x y : Int}
def sh2 (x y : Int) (q : Sd) : Sd := (sh x y q.1, sh x y q.2)
theorem zip_sh : ∀ (a b : List Pr), (a.map (sh x y)).zip (b.map (sh x y)) = (a.zip b).map (sh2 x y)
  | [], _ => rfl
  | _ :: _, [] => rfl
  | p :: a, q :: b => by
    show (sh x y p, sh x y q) :: (a.map (sh x y)).zip (b.map (sh x y)) = sh2 x y (p, q) :: (a.zip b).map (sh2 x y)
    rw [zip_sh a b]
    rfl
theorem sides_sh (ps : List Pr) : sidesP (ps.map (sh x y)) = (sidesP ps).map (sh2 x y) := by
  unfold sidesP
  rw [← List.map_drop, ← List.map_take, ← List.map_append, zip_sh]
theorem turns_sh {ps : List Pr} (h : TurnsOk ps) : TurnsOk (ps.map (sh x y)) := fun k hk => by
  rw [List.length_map] at hk
  obtain ⟨a, b, c, h1, h2, h3, h4⟩ := h k hk
  refine ⟨sh x y a, sh x y b, sh x y c, ?_, ?_, ?_, ?_⟩
  · rw [atI_map, h1]
    rfl
  · rw [atI_map, h2]
    rfl
  · rw [List.getElem?_map, h3]
    rfl
  · rw [turn_sh]
    exact h4
theorem tch_sh (p q : Sd) : tch (sh2 x y p) (sh2 x y q) = tch p q := touch_sh
theorem touchOk_sh {ps : List Pr} (h : TouchOk ps) : TouchOk (ps.map (sh x y)) := fun j near hj k hk => by
  rw [sides_sh, List.getElem?_map] at hj
  rw [List.length_map] at hk
  cases e : (sidesP ps)[j]? with
  | none =>
    rw [e] at hj
    cases hj
  | some n0 =>
    rw [e] at hj
    cases hj
    obtain ⟨q, h1, h2⟩ := h j n0 e k hk
    refine ⟨sh2 x y q, ?_, ?_⟩
    · rw [sides_sh, List.getElem?_map, h1]
      rfl
    · rw [tch_sh]
      exact h2
def s1 (ps : List Pr) : Int := (ps.map fun p => p.1).sum
def s2 (ps : List Pr) : Int := (ps.map fun p => p.2).sum
theorem cross_sh1 (p q : Pr) : crossP (sh x y p, sh x y q) = crossP (p, q) + (x * (q.2 - p.2) - y * (q.1 - p.1)) := by
  show (p.1 + x) * (q.2 + y) - (p.2 + y) * (q.1 + x) = p.1 * q.2 - p.2 * q.1 + (x * (q.2 - p.2) - y * (q.1 - p.1))
  grind
theorem cross_shs : ∀ (a b : List Pr), a.length = b.length → (((a.zip b).map (sh2 x y)).map crossP).sum = ((a.zip b).map crossP).sum + (x * (s2 b - s2 a) - y * (s1 b - s1 a))
  | [], [], _ => by simp [s1, s2]
  | [], _ :: _, h => by simp at h
  | _ :: _, [], h => by simp at h
  | p :: a, q :: b, h => by
    have ih := cross_shs a b (by simpa using h)
    have e := cross_sh1 (x := x) (y := y) p q
    show crossP (sh x y p, sh x y q) + (((a.zip b).map (sh2 x y)).map crossP).sum = crossP (p, q) + ((a.zip b).map crossP).sum + (x * ((q.2 + s2 b) - (p.2 + s2 a)) - y * ((q.1 + s1 b) - (p.1 + s1 a)))
    rw [ih, e]
    grind
theorem sum_app (a b : List Int) : (a ++ b).sum = a.sum + b.sum := by
  induction a with
  | nil => simp
  | cons i a ih => simp only [List.cons_append, List.sum_cons, ih, Int.add_assoc]
theorem turn_sum (l : List Int) : (l.drop 1 ++ l.take 1).sum = l.sum := by
  cases l with
  | nil => rfl
  | cons i l =>
    show (l ++ [i]).sum = _
    rw [sum_app]
    simp only [List.sum_cons, List.sum_nil]
    omega
theorem area_sh (ps : List Pr) : areaP (ps.map (sh x y)) = areaP ps := by
  unfold areaP
  rw [sides_sh]
  unfold sidesP
  rw [cross_shs _ _ (by rw [List.length_append, List.length_drop, List.length_take]; omega)]
  have e1 : s1 (ps.drop 1 ++ ps.take 1) = s1 ps := by
    unfold s1
    rw [List.map_append, List.map_drop, List.map_take, turn_sum]
  have e2 : s2 (ps.drop 1 ++ ps.take 1) = s2 ps := by
    unfold s2
    rw [List.map_append, List.map_drop, List.map_take, turn_sum]
  rw [e1, e2]
  simp
theorem ltP_sh (p q : Pr) : ltP (sh x y p) (sh x y q) = ltP p q := by
  unfold ltP
  show (decide (p.1 + x < q.1 + x) || (p.1 + x == q.1 + x && decide (p.2 + y < q.2 + y))) = _
  rw [lt_sh, lt_sh]
  have : (p.1 + x == q.1 + x) = (p.1 == q.1) := by
    rw [Bool.eq_iff_iff, beq_iff_eq, beq_iff_eq]
    omega
  rw [this]
theorem minP_sh : ∀ (r : List Pr) (p : Pr), minP (sh x y p) (r.map (sh x y)) = sh x y (minP p r)
  | [], _ => rfl
  | q :: r, p => by
    show (r.map (sh x y)).foldl (fun a y => if ltP y a then y else a) (if ltP (sh x y q) (sh x y p) then sh x y q else sh x y p) = sh x y (r.foldl (fun a y => if ltP y a then y else a) (if ltP q p then q else p))
    rw [ltP_sh]
    cases ltP q p with
    | true => exact minP_sh r q
    | false => exact minP_sh r p
theorem sh_inj {p q : Pr} : sh x y p = sh x y q ↔ p = q := by
  refine ⟨fun h => ?_, fun h => by rw [h]⟩
  have h1 := congrArg Prod.fst h
  have h2 := congrArg Prod.snd h
  have h1 : p.1 + x = q.1 + x := h1
  have h2 : p.2 + y = q.2 + y := h2
  exact Prod.ext (by omega) (by omega)
theorem beq_sh (p q : Pr) : (sh x y p == sh x y q) = (p == q) := by
  rw [Bool.eq_iff_iff, beq_iff_eq, beq_iff_eq]
  exact sh_inj
theorem find_sh (m : Pr) : ∀ l : List Pr, (l.map (sh x y)).findIdx? (fun q => q == sh x y m) = l.findIdx? (fun q => q == m)
  | [] => rfl
  | p :: l => by
    rw [List.map_cons, List.findIdx?_cons, List.findIdx?_cons, beq_sh, find_sh m l]
theorem turnR_sh (ps : List Pr) : turnR (ps.map (sh x y)) = (turnR ps).map (sh x y) := by
  unfold turnR
  rw [area_sh]
  split
  · rw [List.map_reverse]
  · rfl
/-- what told_round gives -/
def toldP (ps : List Pr) : List Pr := match turnR ps with
  | [] => []
  | p :: r => match (p :: r).findIdx? (fun q => q == minP p r) with
    | some k => (p :: r).drop k ++ (p :: r).take k
    | none => []
theorem told_sh {ps : List Pr} {s : Tn} (hb : ∀ p ∈ ps.map (sh x y), Bd p) (hl : ps.length ≤ 1000) (h : toldP ps ≠ []) : m_law_told_round [.list ((ps.map (sh x y)).map enc)] s = some (.tuple (((toldP ps).map (sh x y)).map enc), s) := by
  unfold toldP at h ⊢
  split at h
  · exact absurd rfl h
  · rename_i p r ht
    split at h
    · rename_i k hk
      have e : turnR (ps.map (sh x y)) = sh x y p :: r.map (sh x y) := by
        rw [turnR_sh, ht]
        rfl
      have hk2 : (sh x y p :: r.map (sh x y)).findIdx? (fun q => q == minP (sh x y p) (r.map (sh x y))) = some k := by
        rw [minP_sh]
        exact (find_sh (minP p r) (p :: r)).trans hk
      have := told_is hb (by rw [List.length_map]; exact hl) e hk2 s
      have e2 : (sh x y p :: r.map (sh x y)) = (p :: r).map (sh x y) := rfl
      rw [this, e2, ← List.map_drop, ← List.map_take, ← List.map_append]
    · exact absurd rfl h
theorem field_sh {ps : List Pr} (h : FieldOk ps) (hb : ∀ p ∈ ps.map (sh x y), Bd p) : FieldOk (ps.map (sh x y)) := by
  refine ⟨hb, by rw [List.length_map]; exact h.l3, by rw [List.length_map]; exact h.l6, ?_, turns_sh h.tn, touchOk_sh h.tc, by rw [area_sh]; exact h.ar, ?_⟩
  · rw [List.Nodup, List.pairwise_map]
    exact h.nd.imp fun {a b} n z => n (sh_inj.mp z)
  · obtain ⟨p, r, e, hm⟩ := h.mn
    refine ⟨sh x y p, r.map (sh x y), by rw [e]; rfl, ?_⟩
    rw [minP_sh, hm]
end
end Md
-- My34
set_option Elab.async false
set_option linter.all false
set_option maxRecDepth 100000
set_option maxHeartbeats 4000000
/-! The drawn field is a field. -/
namespace Md
open PySem PySem.Spec PyProof.Rows L2
set_option autoImplicit false
def gndsP : List (List Pr) := [[(0, 0), (1, 0), (0, 1)], [(0, 0), (2, 0), (2, 1), (0, 1)], [(0, 0), (2, 0), (2, 2), (0, 2)], [(0, 0), (2, 0), (2, 1), (1, 1), (1, 2), (0, 2)], [(0, 0), (3, 1), (1, 2)], [(0, 0), (3, 0), (1, 1), (0, 3)], [(0, 0), (2, 1), (3, 3), (1, 2)], [(0, 0), (3, 0), (2, 1), (3, 2), (0, 2)], [(0, 0), (1, 0), (2, 2), (0, 1)]]
abbrev Mat := Int × Int × Int × Int
def matsP : List Mat := [(1, 0, 0, 1), (1, 1, 0, 1), (1, 0, -1, 1), (0, 1, 1, 0), (2, 1, 1, 1), (-1, 0, 1, 1)]
def encM (m : Mat) : Dt := .tuple [.int m.1, .int m.2.1, .int m.2.2.1, .int m.2.2.2]
def lin (m : Mat) (p : Pr) : Pr := (m.1 * p.1 + m.2.1 * p.2, m.2.2.1 * p.1 + m.2.2.2 * p.2)
def gndD (ps : List Pr) : Dt := .tuple (ps.map enc)
def turnsB (ps : List Pr) : Bool := (List.range ps.length).all fun k => match L2.atI ps ((k : Int) - 2), L2.atI ps ((k : Int) - 1), ps[k]? with
  | some a, some b, some c => !decide (turnI a b c = 0)
  | _, _, _ => false
def touchesB (ps : List Pr) : Bool := (List.range ps.length).all fun j => match (sidesP ps)[j]? with
  | some near => (List.range (cntC ps.length j)).all fun k => match (sidesP ps)[j + 2 + k]? with
    | some q => !tch near q
    | none => false
  | none => false
def bdB (p : Pr) : Bool := decide (-36 ≤ p.1) && decide (p.1 ≤ 36) && (decide (-36 ≤ p.2) && decide (p.2 ≤ 36))
def minB (ps : List Pr) : Bool := match ps with
  | p :: r => minP p r == p
  | [] => false
def ndB : List Pr → Bool
  | [] => true
  | p :: r => !r.contains p && ndB r
def fieldB (ps : List Pr) : Bool := ps.all bdB && (decide (3 ≤ ps.length) && (decide (ps.length ≤ 6) && (ndB ps && (turnsB ps && (touchesB ps && (decide (0 < areaP ps) && minB ps))))))
theorem turnsB_ok {ps : List Pr} (h : turnsB ps = true) : TurnsOk ps := fun k hk => by
  have h1 := List.all_eq_true.mp h k (List.mem_range.mpr hk)
  split at h1
  · rename_i a b c e1 e2 e3
    refine ⟨a, b, c, e1, e2, e3, ?_⟩
    rw [Bool.not_eq_true', decide_eq_false_iff_not] at h1
    exact h1
  · cases h1
theorem touchesB_ok {ps : List Pr} (h : touchesB ps = true) : TouchOk ps := fun j near hj k hk => by
  have hl : j < ps.length := by
    have := (List.getElem?_eq_some_iff.mp hj).1
    rw [sides_len] at this
    exact this
  have h1 := List.all_eq_true.mp h j (List.mem_range.mpr hl)
  rw [hj] at h1
  have h2 := List.all_eq_true.mp h1 k (List.mem_range.mpr hk)
  split at h2
  · rename_i q e
    exact ⟨q, e, by simpa using h2⟩
  · cases h2
theorem ndB_ok : ∀ {ps : List Pr}, ndB ps = true → ps.Nodup
  | [], _ => List.nodup_nil
  | p :: r, h => by
    unfold ndB at h
    rw [Bool.and_eq_true] at h
    refine List.nodup_cons.mpr ⟨fun z => ?_, ndB_ok h.2⟩
    have := h.1
    rw [List.contains_iff_mem.mpr z] at this
    cases this
theorem bdB_ok {p : Pr} (h : bdB p = true) : (-36 ≤ p.1 ∧ p.1 ≤ 36) ∧ (-36 ≤ p.2 ∧ p.2 ≤ 36) := by
  unfold bdB at h
  simp only [Bool.and_eq_true, decide_eq_true_eq] at h
  exact h
theorem fieldB_ok {ps : List Pr} (h : fieldB ps = true) : FieldOk ps := by
  unfold fieldB at h
  simp only [Bool.and_eq_true, decide_eq_true_eq] at h
  obtain ⟨h1, h2, h3, h4, h5, h6, h7, h8⟩ := h
  refine ⟨fun p hp => ?_, h2, h3, ndB_ok h4, turnsB_ok h5, touchesB_ok h6, h7, ?_⟩
  · have := bdB_ok (List.all_eq_true.mp h1 p hp)
    exact ⟨⟨by omega, by omega⟩, by omega, by omega⟩
  · unfold minB at h8
    split at h8
    · rename_i p r
      exact ⟨p, r, rfl, by simpa using h8⟩
    · cases h8
theorem chkF_all : (gndsP.all fun g => matsP.all fun m => fieldB (toldP (g.map (lin m))) && (g.map (lin m)).all bdB) = true := by decide +kernel
theorem gnds_is (s : Tn) : m_law_grounds [] s = some (.list (gndsP.map gndD), s) := rfl
theorem mats_small : ∀ m ∈ matsP, big m.1 ∧ big m.2.1 ∧ big m.2.2.1 ∧ big m.2.2.2 := by decide
abbrev aMats : mA := (mCons (mF dTup (mCons (mC (.int 1)) (mCons (mC (.int 0)) (mCons (mC (.int 0)) (mCons (mC (.int 1)) mNil))))) (mCons (mF dTup (mCons (mC (.int 1)) (mCons (mC (.int 1)) (mCons (mC (.int 0)) (mCons (mC (.int 1)) mNil))))) (mCons (mF dTup (mCons (mC (.int 1)) (mCons (mC (.int 0)) (mCons (m1 dNeg (mC (.int 1))) (mCons (mC (.int 1)) mNil))))) (mCons (mF dTup (mCons (mC (.int 0)) (mCons (mC (.int 1)) (mCons (mC (.int 1)) (mCons (mC (.int 0)) mNil))))) (mCons (mF dTup (mCons (mC (.int 2)) (mCons (mC (.int 1)) (mCons (mC (.int 1)) (mCons (mC (.int 1)) mNil))))) (mCons (mF dTup (mCons (m1 dNeg (mC (.int 1))) (mCons (mC (.int 0)) (mCons (mC (.int 1)) (mCons (mC (.int 1)) mNil))))) mNil))))))
theorem eMats (env : Ev) (s : Tn) : mF dLst aMats env s = some (.list (matsP.map encM), s) := rfl
abbrev linE : mE := mF dTup (mCons (m2 dAdd (m2 dAdd (m2 dMul (mVar 3) (m2 dIx (mVar 9) (mC (.int 0)))) (m2 dMul (mVar 4) (m2 dIx (mVar 9) (mC (.int 1))))) (mVar 7)) (mCons (m2 dAdd (m2 dAdd (m2 dMul (mVar 5) (m2 dIx (mVar 9) (mC (.int 0)))) (m2 dMul (mVar 6) (m2 dIx (mVar 9) (mC (.int 1))))) (mVar 8)) mNil))
abbrev envL (own : List Pr) (m : Mat) (x y : Int) (it : Option Dt) : Ev := [some (.dict []), some (.list (own.map enc)), some (.list (matsP.map encM)), some (.int m.1), some (.int m.2.1), some (.int m.2.2.1), some (.int m.2.2.2), some (.int x), some (.int y), it]
theorem lin_is {own : List Pr} {m : Mat} {x y : Int} (hm : m ∈ matsP) (p : Pr) (s : Tn) : linE (envL own m x y (some (enc p))) s = some (enc (sh x y (lin m p)), s) := by
  obtain ⟨b1, b2, b3, b4⟩ := mats_small m hm
  have v9 : mVar 9 (envL own m x y (some (enc p))) s = some (enc p, s) := rfl
  have x0 : m2 dIx (mVar 9) (mC (.int 0)) (envL own m x y (some (enc p))) s = some (.int p.1, s) := m2_of v9 (show mC _ _ _ = some _ from rfl) (ix_enc0 p)
  have x1 : m2 dIx (mVar 9) (mC (.int 1)) (envL own m x y (some (enc p))) s = some (.int p.2, s) := m2_of v9 (show mC _ _ _ = some _ from rfl) (ix_enc1 p)
  exact mF_of (mCons_of (m2_of (m2_of (m2_of (show mVar 3 _ _ = some (.int m.1, s) from rfl) x0 (mulB b1)) (m2_of (show mVar 4 _ _ = some (.int m.2.1, s) from rfl) x1 (mulB b2)) (addI _ _)) (show mVar 7 _ _ = some (.int x, s) from rfl) (addI _ _)) (mCons_of (m2_of (m2_of (m2_of (show mVar 5 _ _ = some (.int m.2.2.1, s) from rfl) x0 (mulB b3)) (m2_of (show mVar 6 _ _ = some (.int m.2.2.2, s) from rfl) x1 (mulB b4)) (addI _ _)) (show mVar 8 _ _ = some (.int y, s) from rfl) (addI _ _)) mNil_of)) rfl
theorem lin_loop {own : List Pr} {m : Mat} {x y : Int} (hm : m ∈ matsP) {s : Tn} : ∀ ps : List Pr, mLcL (aName 9) [9] linE (ps.map enc) (envL own m x y none) s = some (((ps.map (lin m)).map (sh x y)).map enc, s)
  | [] => rfl
  | p :: ps => lcL_cons (show aName 9 (enc p) (wipeE (envL own m x y none) [9]) = some (envL own m x y (some (enc p))) from rfl) (lin_is hm p s) (lin_loop hm ps)
theorem ground_ok : GroundSpec := fun n s ok => by
  obtain ⟨d1, s1, h1, c1, k1⟩ := of_ok (n := n + 3) (L := gndsP.map gndD) (by decide) (by decide) ok
  obtain ⟨g, hg, rfl⟩ := List.mem_map.mp c1
  obtain ⟨d2, s2, h2, c2, k2⟩ := of_ok (n := n + 2) (L := matsP.map encM) (by decide) (by decide) k1
  obtain ⟨m, hm, rfl⟩ := List.mem_map.mp c2
  obtain ⟨v3, s3, h3, a3, b3, k3⟩ := takeS (n := n + 1) (b := 9) (j := 4) (env := [some (.dict []), some (.list (g.map enc)), some (.list (matsP.map encM)), some (.int m.1), some (.int m.2.1), some (.int m.2.2.1), some (.int m.2.2.2), none, none, none]) (by decide) (by decide) rfl k2
  obtain ⟨v4, s4, h4, a4, b4, k4⟩ := takeS (n := n) (b := 9) (j := 4) (env := [some (.dict []), some (.list (g.map enc)), some (.list (matsP.map encM)), some (.int m.1), some (.int m.2.1), some (.int m.2.2.1), some (.int m.2.2.2), none, none, none]) (by decide) (by decide) rfl k3
  have hc := List.all_eq_true.mp (List.all_eq_true.mp chkF_all g hg) m hm
  rw [Bool.and_eq_true] at hc
  have hF := fieldB_ok hc.1
  have hF1 : (toldP (g.map (lin m))).all bdB = true := by
    have := hc.1
    unfold fieldB at this
    rw [Bool.and_eq_true] at this
    exact this.1
  generalize hx : v3 - 4 = x at h3
  generalize hy : v4 - 4 = y at h4
  have bd0 : ∀ l : List Pr, l.all bdB = true → ∀ p ∈ l.map (sh x y), Small p.1 ∧ Small p.2 := fun l hl p hp => by
    obtain ⟨q, hq, rfl⟩ := List.mem_map.mp hp
    have := bdB_ok (List.all_eq_true.mp hl q hq)
    have e1 : (sh x y q).1 = q.1 + x := rfl
    have e2 : (sh x y q).2 = q.2 + y := rfl
    rw [e1, e2]
    exact ⟨⟨by omega, by omega⟩, by omega, by omega⟩
  have bd1 : ∀ p : Pr, Small p.1 ∧ Small p.2 → Bd p := fun p h => by
    obtain ⟨⟨a, b⟩, c, d⟩ := h
    exact ⟨⟨by omega, by omega⟩, by omega, by omega⟩
  have hl6 : g.length ≤ 6 := (show ∀ g ∈ gndsP, g.length ≤ 6 by decide) g hg
  have ne0 : toldP (g.map (lin m)) ≠ [] := fun z => by
    have := hF.l3
    rw [z] at this
    exact absurd this (by decide)
  have ht := told_sh (x := x) (y := y) (s := s4) (fun p hp => bd1 p (bd0 _ hc.2 p hp)) (by rw [List.length_map]; omega) ne0
  refine ⟨(toldP (g.map (lin m))).map (sh x y), s4, ?_, ⟨bd0 _ hF1, by rw [List.length_map]; exact hF.l6, fun z => ne0 (List.map_eq_nil_iff.mp z), ⟨(0, 0, 0), field_is (field_sh hF fun p hp => bd1 p (bd0 _ hF1 p hp)) _⟩⟩, k4⟩
  refine mFn_of rfl ?_
  have q1 : mF dList (mCons (mCall m_law_of (mCons (mVar 0) (mCons (mCall m_law_grounds mNil) mNil))) mNil) (initE 10 [.dict []]) s = some (.list (g.map enc), s1) :=
    mF_of (mCons_of (mCall_of (mCons_of (show mVar 0 _ _ = some (.dict [], s) from rfl) (mCons_of (mCall_of mNil_of (gnds_is s)) mNil_of)) h1) mNil_of) rfl
  refine (mSeq_nx (mAsg_of q1 rfl)).trans ((mSeq_nx (mAsg_of (eMats _ s1) rfl)).trans ?_)
  refine (mSeq_nx (mAsg_of (mCall_of (mCons_of (show mVar 0 _ _ = some (.dict [], s1) from rfl) (mCons_of (show mVar 2 _ _ = some (.list (matsP.map encM), s1) from rfl) mNil_of)) h2) (show aTup 4 (aCons (aName 3) (aCons (aName 4) (aCons (aName 5) (aCons (aName 6) aNil)))) (encM m) _ = some [some (.dict []), some (.list (g.map enc)), some (.list (matsP.map encM)), some (.int m.1), some (.int m.2.1), some (.int m.2.2.1), some (.int m.2.2.2), none, none, none] from rfl))).trans ?_
  refine (mSeq_nx (mAsg_of (mF_of (mCons_of h3 (mCons_of h4 mNil_of)) (show dTup [.int x, .int y] = some (.tuple [.int x, .int y]) from rfl)) (show aTup 2 (aCons (aName 7) (aCons (aName 8) aNil)) _ _ = some (envL g m x y none) from rfl))).trans (mRet_of ?_)
  have hi : iL (mVar 1) (envL g m x y none) s4 = some (g.map enc, s4) := rfl
  exact mCall_of (mCons_of (lc_of hi (lin_loop hm g) (no_tin_enc _) (by rw [List.length_map, List.length_map, List.length_map]; omega)) mNil_of) ht
theorem sheet_good {n : Nat} {s : Tn} (ok : Okn (n + 24) s) : ∃ ps es hs s', m_law_sheet [.dict []] s = some (.tuple [.tuple (ps.map enc), .tuple (es.map enc2), .tuple (hs.map enc)], s') ∧ Sheet ps es hs ∧ Okn n s' := sheet_ok ground_ok ok
end Md
-- Mz1
set_option Elab.async false
set_option linter.all false
set_option maxRecDepth 100000
set_option maxHeartbeats 4000000
/-! The law: its source of draws is the box's list. -/
namespace Md
open PySem PySem.Spec PyProof.Rows L2
set_option autoImplicit false
theorem pow_is : dPow (.int 10) (.int 18) = some (.int 1000000000000000000) := by
  unfold dPow
  dsimp only
  rw [if_pos (by decide)]
  rfl
theorem big_flag (b : Bool) : big (if b = true then 1 else 0) := by
  cases b with
  | true => exact ⟨by decide, by decide⟩
  | false => exact ⟨by decide, by decide⟩
theorem box_ok (c : Int) (s : Tn) : ∃ i j : Int, m_law_box [.list [.int c], .int 0] s = some (.list [.int i, .int j, .int 0], s) := by
  have e0 : ∀ o, mVar 0 [some (.list [.int c]), some (.int 0), o] s = some (.list [.int c], s) := fun _ => rfl
  have e1 : ∀ o, mVar 1 [some (.list [.int c]), some (.int 0), o] s = some (.int 0, s) := fun _ => rfl
  have e2 : mVar 2 [some (.list [.int c]), some (.int 0), some (.int c)] s = some (.int c, s) := rfl
  have ab : mF dAbs (mCons (mVar 2) mNil) [some (.list [.int c]), some (.int 0), some (.int c)] s = some (.int (if c < 0 then -c else c), s) := mF_of (mCons_of e2 mNil_of) rfl
  have pw : m2 dPow (mC (.int 10)) (mC (.int 18)) [some (.list [.int c]), some (.int 0), some (.int c)] s = some (.int 1000000000000000000, s) := m2_of (show mC _ _ _ = some (.int 10, s) from rfl) (show mC _ _ _ = some (.int 18, s) from rfl) pow_is
  have ge : ∃ z : Int, big z ∧ mF dInt (mCons (m2 dGe (mF dAbs (mCons (mVar 2) mNil)) (m2 dPow (mC (.int 10)) (mC (.int 18)))) mNil) [some (.list [.int c]), some (.int 0), some (.int c)] s = some (.int z, s) := by
    refine ⟨if decide ((1000000000000000000 : Int) ≤ (if c < 0 then -c else c)) then 1 else 0, big_flag _, mF_of (mCons_of (m2_of ab pw rfl) mNil_of) rfl⟩
  obtain ⟨z, hz, ge⟩ := ge
  have q0 : mIf (mT (m2 dLt (mVar 1) (mF dLen (mCons (mVar 0) mNil)))) (m2 dIx (mVar 0) (mVar 1)) (mC (.int 0)) [some (.list [.int c]), some (.int 0), none] s = some (.int c, s) :=
    (mIf_t (mT_of (m2_of (e1 _) (mF_of (mCons_of (e0 _) mNil_of) (show dLen [.list [.int c]] = some (.int 1) from rfl)) (show dLt (.int 0) (.int 1) = some (.bool true) from rfl)))).trans (m2_of (e0 _) (e1 _) rfl)
  refine ⟨(if c < 0 then -c else c) * z, c % 2305843009213693951 + 39373 * 0 + 3191043, mFn_of rfl ((mSeq_nx (mAsg_of q0 rfl)).trans (mRet_of ?_))⟩
  have r1 : m2 dMul (mF dAbs (mCons (mVar 2) mNil)) (mF dInt (mCons (m2 dGe (mF dAbs (mCons (mVar 2) mNil)) (m2 dPow (mC (.int 10)) (mC (.int 18)))) mNil)) [some (.list [.int c]), some (.int 0), some (.int c)] s = some (.int ((if c < 0 then -c else c) * z), s) := m2_of ab ge (by
    unfold dMul
    dsimp only
    rw [if_pos (.inr hz)])
  have r2 : m2 dMod (mF dInt (mCons (mVar 2) mNil)) (mC (.int 2305843009213693951)) [some (.list [.int c]), some (.int 0), some (.int c)] s = some (.int (c % 2305843009213693951), s) := m2_of (mF_of (mCons_of e2 mNil_of) rfl) (show mC _ _ _ = some (.int 2305843009213693951, s) from rfl) (by
    unfold dMod
    dsimp only
    rw [if_pos (by decide)])
  have r3 : m2 dMul (mC (.int 39373)) (mVar 1) [some (.list [.int c]), some (.int 0), some (.int c)] s = some (.int (39373 * 0), s) := m2_of (show mC _ _ _ = some (.int 39373, s) from rfl) (e1 _) (mulB ⟨by decide, by decide⟩)
  exact mF_of (mCons_of r1 (mCons_of (m2_of (m2_of r2 r3 (addI _ _)) (show mC _ _ _ = some (.int 3191043, s) from rfl) (addI _ _)) (mCons_of (show mC _ _ _ = some (.int 0, s) from rfl) mNil_of))) rfl
section
variable {P : Program} {w : World} {K : PySem.W.Frag} {mg : Str → Option Value} {base : Heap}
abbrev N_law : List Str := ["_law_script", "_law_tin"]
theorem sc_law : FnScope N_law ["_law_script"] (defScope s_law) := ⟨rfl, rfl, rfl, by decide +kernel, rfl, by decide +kernel, by decide +kernel⟩
def spLaw (K : PySem.W.Frag) : Sp := fun vs H Q _ => ∃ (a : Addr) (ns : List Int), vs = [.ref a] ∧ ns.length ≤ 63 ∧ SqL K H a (ns.map V.int) ∧ ∀ H', Q (.bl true) H'
abbrev noE : XK := fun _ _ _ => False
abbrev tl1 (K : PySem.W.Frag) : TE := tCall (spM 2 m_law_box) [] noE (tCons (tCall (spCells K) [] noE (tCons (tVar 0) (tCons (tC (.int 1)) tNil))) (tCons (tC (.int 0)) tNil))
abbrev tl2 : TE := tCall (spM 1 m_law_table_right) [] noE (tCons (tVar 1) tNil)
abbrev tl3 : TE := tCall (spM 1 m_law_right) [] noE (tCons (tVar 1) tNil)
abbrev t_law (K : PySem.W.Frag) : TS := tSeq (tAsg (tl1 K) (gName 1)) (tRet (tAndV tl2 tl3))
abbrev Tnone : Tm := ⟨none, fun _ => none⟩
abbrev Tat (p : Addr) : Tm := ⟨some p, fun _ => none⟩
theorem law_run {vs : List V} {H : Hp} {Q : VK} {E : XK} (h : spLaw K vs H Q E) : t_law K { nx := fun _ H' => Q .non H', rt := Q } (L2.start N_law vs) H := by
  obtain ⟨a, ns, rfl, hl, hS, k⟩ := h
  refine ⟨_, rfl, a, ns, rfl, hl, hS, fun H1 l c s1 e1 => ?_⟩
  obtain ⟨i, j, hb⟩ := box_ok c (0, 0, 0)
  refine ⟨Tnone, upd (fun _ => none) l (.lst [.int c]), [.list [.int c], .int 0], (0, 0, 0), _, (0, 0, 0), ⟨fun b u e => ?_, fun p z => (by cases z)⟩, .cons (.inl (.lst upd_same (.cons (.int c) .nil))) (.cons (.inl (.int 0)) .nil), rfl, hb, fun G2 H2 v x2 w2 dv2 => ?_⟩
  · by_cases q : b = l
    · subst q
      rw [upd_same] at e
      cases e
      exact e1
    · rw [upd_ne q] at e
      cases e
  · obtain ⟨p, xs, rfl, hp, hx⟩ := dv2.lst_
    cases hx with
    | cons d1 t1 =>
      cases t1 with
      | cons d2 t2 =>
        cases t2 with
        | cons d3 t3 =>
          cases t3
          cases d1
          cases d2
          cases d3
          have hp2 := w2.sub _ _ hp
          obtain ⟨s3, h3, k3⟩ := table_ok (n := 400) (s := (i, j, 0)) ⟨Int.le_refl 0, show (0 : Int) + ((400 + 1 : Nat) : Int) ≤ 2 ^ 40 by decide⟩
          obtain ⟨s4, h4⟩ := right_ok (n := 0) ground_ok k3
          refine ⟨_, rfl, Tat p, fun _ => none, [.dict []], (i, j, 0), _, s3, ⟨fun b u e => (by cases e), fun q z => ?_⟩, .cons (.inr (.inl ⟨rfl, p, rfl, rfl⟩)) .nil, rfl, h3, fun G3 H3 v3 x3 w3 dv3 => ?_⟩
          · cases z
            exact ⟨hp2, rfl⟩
          · refine ⟨true, dv3.bl_, iteT ?_⟩
            refine ⟨_, rfl, Tat p, G3, [.dict []], s3, _, s4, w3, .cons (.inr (.inl ⟨rfl, p, rfl, rfl⟩)) .nil, rfl, h4, fun G4 H4 v4 x4 w4 dv4 => ?_⟩
            have e4 := dv4.bl_
            subst e4
            exact k H4
theorem ok_law (T : Tx K mg) {C fI : Addr} (B : Mr.BadTxt P K mg C fI) (nV : mg "ValueError" = none) : FnOk P w K mg base CX0 11 T.a_law T.d_law ["_law_script"] (spLaw K) := by
  refine T.F_law.ok sc_law (fun vs H Q E h => ?_) (fun cdv A outer s H vs Q E hr h => ⟨t_law K, ?_, law_run h⟩)
  · obtain ⟨a, ns, rfl, _⟩ := h
    rfl
  · exact pss_cons (ps_set (i := 1) sc_law.nd rfl (Or.inl rfl) (pe_call (ok_law_box T) (hr.mono (by decide)) rfl T.g_law_box T.F_law_box.kp (b_law_box T.F_law_box) .nil pass0 (pa_cons (pe_call (ok_cells T) (hr.mono (by decide)) rfl T.g_law_cells T.F_law_cells.kp (b_law_cells T.F_law_cells) .nil pass0 (pa_cons (pv 0) (pa_cons pe_int pa_nil))) (pa_cons pe_int pa_nil))))
      (pss_one (ps_ret (pe_and (pe_call (ok_law_table_right T B nV) (hr.mono (by decide)) rfl T.g_law_table_right T.F_law_table_right.kp (b_law_table_right T.F_law_table_right) .nil pass0 (pa_cons (pv 1) pa_nil)) (pe_one (pe_call (ok_law_right T B nV) (hr.mono (by decide)) rfl T.g_law_right T.F_law_right.kp (b_law_right T.F_law_right) .nil pass0 (pa_cons (pv 1) pa_nil))))))
end
end Md
-- Mz2
set_option Elab.async false
set_option linter.all false
set_option maxRecDepth 100000
set_option maxHeartbeats 8000000
/-! What the top leaves, as Tx and BadTxt; the law's promise. Printed by mkz.py. -/
namespace Mr
open PySem PySem.W PySem.Calls PyProof.Rows PySem.HandSPX
set_option autoImplicit false
theorem exm_C {K : Frag} {C : Addr} (b : subIn K (.ref C) (.type "BaseException") = some true) (i : isClsIn K C = true) (t : typeIn K (.ref C) = some (.type "type")) (q : subIn K (.ref C) (.ref C) = some true) : exmOne K (.ref C) (.ref C) = some true := by
  have i' : (clsIn K C).isSome = true := i
  have e1 : (subIn K (.ref C) (.type "BaseException") == some true) = true := by rw [b] <;> rfl
  have e2 : ((clsIn K C).isSome && typeIn K (.ref C) == some (.type "type")) = true := by rw [i', t] <;> rfl
  show (if (subIn K (.ref C) (.type "BaseException") == some true) = true then (if ((clsIn K C).isSome && typeIn K (.ref C) == some (.type "type")) = true then subIn K (.ref C) (.ref C) else none) else none) = some true
  rw [if_pos e1, if_pos e2, q]
section
variable {K : Frag} {h : Heap} {mg : Str → Option Value}
/-- the class's own facts -/
theorem bad_mk {l : OpenLaw} (X : K.In h) (G : h.Ns mainGlobals mg) {C fI cda cc : Addr} {nm q : Str} {N : Addr} {bs : List Value} {sn : List Str} {sub : List Value} {ab : Bool} {col : Option Bool} {dd : Option Addr} {m0 m1 m2 m3 m5 : Option Value}
    {oc kV doc pm ct ccl cl : Value} {od an cdd cld : Option Addr} {osl ccs csl : Array (Option Value)} {vs : Array Value} {file : Str} {tf : Tok}
    (bC : nsIn K mainGlobals "BadText" = some (some (.ref C)))
    (xC : K.lookup C = some (excClassObj nm q C N bs [.type "ValueError", .type "Exception", .type "BaseException", .type "object"] true sn sub ab col dd m0 m1 m2 m3 m5 "ValueError.__new__"))
    (al : ks_superIn K C C "__init__" = some (some (.builtin "ValueError.__init__")))
    (sa : findIn K (.ref C) "__setattr__" = some (some (.builtin "object.__setattr__"))) (ga : findIn K (.ref C) "__getattribute__" = some (some (.builtin "BaseException.__getattribute__"))) (gg : findIn K (.ref C) "__getattr__" = some none) (nn : findIn K (.ref C) "line" = some none)
    (iC : findIn K (.ref C) "__init__" = some (some (.ref fI))) (tI : typeIn K (.ref fI) = some (.type "function")) (kC : keepIn K (.ref C) = true) (eC : subIn K (.ref C) (.type "BaseException") = some true) (vC : subIn K (.ref C) (.type "ValueError") = some true)
    (mC : mroIn K C (.ref C) = some true) (yC : typeIn K (.ref C) = some (.type "type")) (hC : hasDictIn K C = true) (iS : isClsIn K C = true) (sS : subIn K (.ref C) (.ref C) = some true) (op : nsIn K cStatics "thirdparty.any" = some none) (su : nsIn K mainGlobals "super" = some none)
    (ht : (l.prog.main.scope.names.lookup ("super" : Str)).isSome = false)
    (lI : K.lookup fI = some ⟨oc, od, .func (ksFn "__init__" "BadText.__init__" (L2.defArgs sInit) (L2.defBody sInit) (L2.defScope sInit) .none kV doc pm an (.ref cda) ct cc), osl⟩) (cI : codeIn K (.ref cda) "BadText.__init__" = true)
    (lD : K.lookup cda = some ⟨ccl, cdd, .fields vs, ccs⟩) (v2 : vs[2]? = some (.str file tf)) (hf : ((l.prog.main.file : Str) == file) = true) (lC : K.lookup cc = some ⟨cl, cld, .cell (some (.ref C)), csl⟩) : BadTxt l.prog K mg C fI where
  gC := mg_of X G bC
  cls := ⟨nm, q, N, bs, _, sn, sub, ab, col, dd, m0, m1, m2, m3, m5, xC, by decide +kernel⟩
  along := al
  sa := sa
  ga := ga
  gg := gg
  noN := nn
  iC := iC
  tC := tI
  kC := kC
  exC := eC
  veC := vC
  meC := mC
  tyC := yC
  hdC := hC
  te := exm_C eC iS yC sS
  opq := op
  sup := mg_none_of X G su
  htop := ht
  fn := ⟨oc, od, kV, doc, pm, an, ct, cc, cda, osl, ccl, cdd, vs, ccs, file, tf, cl, cld, csl, lI, cI, lD, v2, hf, lC⟩
end
end Mr
namespace Md
open PySem PySem.Spec PyProof.Rows L2 PySem.W
set_option autoImplicit false
section
variable {K : PySem.W.Frag} {h : Heap} {mg : Str → Option Value}
def tx_mk (X : K.In h) (G : h.Ns mainGlobals mg)
    {t_FIGURES : Tok}
    {t_SIGNS : Tok}
    {t_LONGEST : Tok}
    {t_BELOW : Tok}
    {t_REMARK : Tok}
    {t_FIELD : Tok}
    {t_EDGE : Tok}
    {t_TURN : Tok}
    {f_is_number : Addr} {od_is_number an_is_number : Option Addr} {sl_is_number : Array (Option Value)} {oc_is_number kV_is_number dc_is_number pm_is_number cd_is_number ct_is_number : Value}
    {f_is_long : Addr} {od_is_long an_is_long : Option Addr} {sl_is_long : Array (Option Value)} {oc_is_long kV_is_long dc_is_long pm_is_long cd_is_long ct_is_long : Value}
    {f_is_dot : Addr} {od_is_dot an_is_dot : Option Addr} {sl_is_dot : Array (Option Value)} {oc_is_dot kV_is_dot dc_is_dot pm_is_dot cd_is_dot ct_is_dot : Value}
    {f_is_arm : Addr} {od_is_arm an_is_arm : Option Addr} {sl_is_arm : Array (Option Value)} {oc_is_arm kV_is_arm dc_is_arm pm_is_arm cd_is_arm ct_is_arm : Value}
    {f_is_edge : Addr} {od_is_edge an_is_edge : Option Addr} {sl_is_edge : Array (Option Value)} {oc_is_edge kV_is_edge dc_is_edge pm_is_edge cd_is_edge ct_is_edge : Value}
    {f_turn_in : Addr} {od_turn_in an_turn_in : Option Addr} {sl_turn_in : Array (Option Value)} {oc_turn_in kV_turn_in dc_turn_in pm_turn_in cd_turn_in ct_turn_in : Value}
    {f_arm_of_in : Addr} {od_arm_of_in an_arm_of_in : Option Addr} {sl_arm_of_in : Array (Option Value)} {oc_arm_of_in kV_arm_of_in dc_arm_of_in pm_arm_of_in cd_arm_of_in ct_arm_of_in : Value}
    {f_area_in : Addr} {od_area_in an_area_in : Option Addr} {sl_area_in : Array (Option Value)} {oc_area_in kV_area_in dc_area_in pm_area_in cd_area_in ct_area_in : Value}
    {f_sides_of : Addr} {od_sides_of an_sides_of : Option Addr} {sl_sides_of : Array (Option Value)} {oc_sides_of kV_sides_of dc_sides_of pm_sides_of cd_sides_of ct_sides_of : Value}
    {f_is_on : Addr} {od_is_on an_is_on : Option Addr} {sl_is_on : Array (Option Value)} {oc_is_on kV_is_on dc_is_on pm_is_on cd_is_on ct_is_on : Value}
    {f_touch : Addr} {od_touch an_touch : Option Addr} {sl_touch : Array (Option Value)} {oc_touch kV_touch dc_touch pm_touch cd_touch ct_touch : Value}
    {f_are_corners : Addr} {od_are_corners an_are_corners : Option Addr} {sl_are_corners : Array (Option Value)} {oc_are_corners kV_are_corners dc_are_corners pm_are_corners cd_are_corners ct_are_corners : Value}
    {f_is_field : Addr} {od_is_field an_is_field : Option Addr} {sl_is_field : Array (Option Value)} {oc_is_field kV_is_field dc_is_field pm_is_field cd_is_field ct_is_field : Value}
    {f_run_from : Addr} {od_run_from an_run_from : Option Addr} {sl_run_from : Array (Option Value)} {oc_run_from kV_run_from dc_run_from pm_run_from cd_run_from ct_run_from : Value}
    {f_line_pieces : Addr} {od_line_pieces an_line_pieces : Option Addr} {sl_line_pieces : Array (Option Value)} {oc_line_pieces kV_line_pieces dc_line_pieces pm_line_pieces cd_line_pieces ct_line_pieces : Value}
    {f_pieces : Addr} {od_pieces an_pieces : Option Addr} {sl_pieces : Array (Option Value)} {oc_pieces kV_pieces dc_pieces pm_pieces cd_pieces ct_pieces : Value}
    {f_is_figures : Addr} {od_is_figures an_is_figures : Option Addr} {sl_is_figures : Array (Option Value)} {oc_is_figures kV_is_figures dc_is_figures pm_is_figures cd_is_figures ct_is_figures : Value}
    {f_number_of : Addr} {od_number_of an_number_of : Option Addr} {sl_number_of : Array (Option Value)} {oc_number_of kV_number_of dc_number_of pm_number_of cd_number_of ct_number_of : Value}
    {f_is_plan_told : Addr} {od_is_plan_told an_is_plan_told : Option Addr} {sl_is_plan_told : Array (Option Value)} {oc_is_plan_told kV_is_plan_told dc_is_plan_told pm_is_plan_told cd_is_plan_told ct_is_plan_told : Value}
    {f_rows_of_pieces : Addr} {od_rows_of_pieces an_rows_of_pieces : Option Addr} {sl_rows_of_pieces : Array (Option Value)} {oc_rows_of_pieces kV_rows_of_pieces dc_rows_of_pieces pm_rows_of_pieces cd_rows_of_pieces ct_rows_of_pieces : Value}
    {f_pairs_told : Addr} {od_pairs_told an_pairs_told : Option Addr} {sl_pairs_told : Array (Option Value)} {oc_pairs_told kV_pairs_told dc_pairs_told pm_pairs_told cd_pairs_told ct_pairs_told : Value}
    {f_edge_told : Addr} {od_edge_told an_edge_told : Option Addr} {sl_edge_told : Array (Option Value)} {oc_edge_told kV_edge_told dc_edge_told pm_edge_told cd_edge_told ct_edge_told : Value}
    {f_turn_told : Addr} {od_turn_told an_turn_told : Option Addr} {sl_turn_told : Array (Option Value)} {oc_turn_told kV_turn_told dc_turn_told pm_turn_told cd_turn_told ct_turn_told : Value}
    {f_read_sheet : Addr} {od_read_sheet an_read_sheet : Option Addr} {sl_read_sheet : Array (Option Value)} {oc_read_sheet kV_read_sheet dc_read_sheet pm_read_sheet cd_read_sheet ct_read_sheet : Value}
    {f_law_box : Addr} {od_law_box an_law_box : Option Addr} {sl_law_box : Array (Option Value)} {oc_law_box kV_law_box dc_law_box pm_law_box cd_law_box ct_law_box : Value}
    {f_law_take : Addr} {od_law_take an_law_take : Option Addr} {sl_law_take : Array (Option Value)} {oc_law_take kV_law_take dc_law_take pm_law_take cd_law_take ct_law_take : Value}
    {f_law_cells : Addr} {od_law_cells an_law_cells : Option Addr} {sl_law_cells : Array (Option Value)} {oc_law_cells kV_law_cells dc_law_cells pm_law_cells cd_law_cells ct_law_cells : Value}
    {f_law_of : Addr} {od_law_of an_law_of : Option Addr} {sl_law_of : Array (Option Value)} {oc_law_of kV_law_of dc_law_of pm_law_of cd_law_of ct_law_of : Value}
    {f_law_same : Addr} {od_law_same an_law_same : Option Addr} {sl_law_same : Array (Option Value)} {oc_law_same kV_law_same dc_law_same pm_law_same cd_law_same ct_law_same : Value}
    {f_law_pairs_round : Addr} {od_law_pairs_round an_law_pairs_round : Option Addr} {sl_law_pairs_round : Array (Option Value)} {oc_law_pairs_round kV_law_pairs_round dc_law_pairs_round pm_law_pairs_round cd_law_pairs_round ct_law_pairs_round : Value}
    {f_law_grounds : Addr} {od_law_grounds an_law_grounds : Option Addr} {sl_law_grounds : Array (Option Value)} {oc_law_grounds kV_law_grounds dc_law_grounds pm_law_grounds cd_law_grounds ct_law_grounds : Value}
    {f_law_told_round : Addr} {od_law_told_round an_law_told_round : Option Addr} {sl_law_told_round : Array (Option Value)} {oc_law_told_round kV_law_told_round dc_law_told_round pm_law_told_round cd_law_told_round ct_law_told_round : Value}
    {f_law_ground : Addr} {od_law_ground an_law_ground : Option Addr} {sl_law_ground : Array (Option Value)} {oc_law_ground kV_law_ground dc_law_ground pm_law_ground cd_law_ground ct_law_ground : Value}
    {f_law_any_brink : Addr} {od_law_any_brink an_law_any_brink : Option Addr} {sl_law_any_brink : Array (Option Value)} {oc_law_any_brink kV_law_any_brink dc_law_any_brink pm_law_any_brink cd_law_any_brink ct_law_any_brink : Value}
    {f_law_any_half : Addr} {od_law_any_half an_law_any_half : Option Addr} {sl_law_any_half : Array (Option Value)} {oc_law_any_half kV_law_any_half dc_law_any_half pm_law_any_half cd_law_any_half ct_law_any_half : Value}
    {f_law_sheet : Addr} {od_law_sheet an_law_sheet : Option Addr} {sl_law_sheet : Array (Option Value)} {oc_law_sheet kV_law_sheet dc_law_sheet pm_law_sheet cd_law_sheet ct_law_sheet : Value}
    {f_law_sheet_rows : Addr} {od_law_sheet_rows an_law_sheet_rows : Option Addr} {sl_law_sheet_rows : Array (Option Value)} {oc_law_sheet_rows kV_law_sheet_rows dc_law_sheet_rows pm_law_sheet_rows cd_law_sheet_rows ct_law_sheet_rows : Value}
    {f_law_wide_text : Addr} {od_law_wide_text an_law_wide_text : Option Addr} {sl_law_wide_text : Array (Option Value)} {oc_law_wide_text kV_law_wide_text dc_law_wide_text pm_law_wide_text cd_law_wide_text ct_law_wide_text : Value}
    {f_law_heard : Addr} {od_law_heard an_law_heard : Option Addr} {sl_law_heard : Array (Option Value)} {oc_law_heard kV_law_heard dc_law_heard pm_law_heard cd_law_heard ct_law_heard : Value}
    {f_law_faults : Addr} {od_law_faults an_law_faults : Option Addr} {sl_law_faults : Array (Option Value)} {oc_law_faults kV_law_faults dc_law_faults pm_law_faults cd_law_faults ct_law_faults : Value}
    {f_law_table_right : Addr} {od_law_table_right an_law_table_right : Option Addr} {sl_law_table_right : Array (Option Value)} {oc_law_table_right kV_law_table_right dc_law_table_right pm_law_table_right cd_law_table_right ct_law_table_right : Value}
    {f_law_right : Addr} {od_law_right an_law_right : Option Addr} {sl_law_right : Array (Option Value)} {oc_law_right kV_law_right dc_law_right pm_law_right cd_law_right ct_law_right : Value}
    {f_law : Addr} {od_law an_law : Option Addr} {sl_law : Array (Option Value)} {oc_law kV_law dc_law pm_law cd_law ct_law : Value}
    (z_len : nsIn K mainGlobals "len" = some none)
    (z_min : nsIn K mainGlobals "min" = some none)
    (z_max : nsIn K mainGlobals "max" = some none)
    (z_sum : nsIn K mainGlobals "sum" = some none)
    (z_any : nsIn K mainGlobals "any" = some none)
    (z_all : nsIn K mainGlobals "all" = some none)
    (z_int : nsIn K mainGlobals "int" = some none)
    (z_bool : nsIn K mainGlobals "bool" = some none)
    (z_str : nsIn K mainGlobals "str" = some none)
    (z_list : nsIn K mainGlobals "list" = some none)
    (z_tuple : nsIn K mainGlobals "tuple" = some none)
    (z_set : nsIn K mainGlobals "set" = some none)
    (z_sorted : nsIn K mainGlobals "sorted" = some none)
    (z_range : nsIn K mainGlobals "range" = some none)
    (z_enumerate : nsIn K mainGlobals "enumerate" = some none)
    (z_zip : nsIn K mainGlobals "zip" = some none)
    (z_isinstance : nsIn K mainGlobals "isinstance" = some none)
    (z_abs : nsIn K mainGlobals "abs" = some none)
    (z_gcd : nsIn K mainGlobals "gcd" = some (some (.builtin "math.gcd")))
    (k_FIGURES : nsIn K mainGlobals "FIGURES" = some (some (.str ("0123456789" : Str) t_FIGURES)))
    (k_SIGNS : nsIn K mainGlobals "SIGNS" = some (some (.str ("abcdefghijklmnopqrstuvwxyz0123456789-" : Str) t_SIGNS)))
    (k_LONGEST : nsIn K mainGlobals "LONGEST" = some (some (.int 12 t_LONGEST)))
    (k_BELOW : nsIn K mainGlobals "BELOW" = some (some (.str ("-" : Str) t_BELOW)))
    (k_REMARK : nsIn K mainGlobals "REMARK" = some (some (.str ("#" : Str) t_REMARK)))
    (k_FIELD : nsIn K mainGlobals "FIELD" = some (some (.str ("field" : Str) t_FIELD)))
    (k_EDGE : nsIn K mainGlobals "EDGE" = some (some (.str ("edge" : Str) t_EDGE)))
    (k_TURN : nsIn K mainGlobals "TURN" = some (some (.str ("turn" : Str) t_TURN)))
    (a_is_number : nsIn K mainGlobals "is_number" = some (some (.ref f_is_number)))
    (l_is_number : K.lookup f_is_number = some ⟨oc_is_number, od_is_number, .func (fnOf "is_number" "is_number" (L2.defArgs s_is_number) (L2.defBody s_is_number) (L2.defScope s_is_number) .none kV_is_number dc_is_number pm_is_number an_is_number cd_is_number ct_is_number), sl_is_number⟩)
    (c_is_number : codeIn K cd_is_number "is_number" = true) (q_is_number : keepIn K (.ref f_is_number) = true)
    (a_is_long : nsIn K mainGlobals "is_long" = some (some (.ref f_is_long)))
    (l_is_long : K.lookup f_is_long = some ⟨oc_is_long, od_is_long, .func (fnOf "is_long" "is_long" (L2.defArgs s_is_long) (L2.defBody s_is_long) (L2.defScope s_is_long) .none kV_is_long dc_is_long pm_is_long an_is_long cd_is_long ct_is_long), sl_is_long⟩)
    (c_is_long : codeIn K cd_is_long "is_long" = true) (q_is_long : keepIn K (.ref f_is_long) = true)
    (a_is_dot : nsIn K mainGlobals "is_dot" = some (some (.ref f_is_dot)))
    (l_is_dot : K.lookup f_is_dot = some ⟨oc_is_dot, od_is_dot, .func (fnOf "is_dot" "is_dot" (L2.defArgs s_is_dot) (L2.defBody s_is_dot) (L2.defScope s_is_dot) .none kV_is_dot dc_is_dot pm_is_dot an_is_dot cd_is_dot ct_is_dot), sl_is_dot⟩)
    (c_is_dot : codeIn K cd_is_dot "is_dot" = true) (q_is_dot : keepIn K (.ref f_is_dot) = true)
    (a_is_arm : nsIn K mainGlobals "is_arm" = some (some (.ref f_is_arm)))
    (l_is_arm : K.lookup f_is_arm = some ⟨oc_is_arm, od_is_arm, .func (fnOf "is_arm" "is_arm" (L2.defArgs s_is_arm) (L2.defBody s_is_arm) (L2.defScope s_is_arm) .none kV_is_arm dc_is_arm pm_is_arm an_is_arm cd_is_arm ct_is_arm), sl_is_arm⟩)
    (c_is_arm : codeIn K cd_is_arm "is_arm" = true) (q_is_arm : keepIn K (.ref f_is_arm) = true)
    (a_is_edge : nsIn K mainGlobals "is_edge" = some (some (.ref f_is_edge)))
    (l_is_edge : K.lookup f_is_edge = some ⟨oc_is_edge, od_is_edge, .func (fnOf "is_edge" "is_edge" (L2.defArgs s_is_edge) (L2.defBody s_is_edge) (L2.defScope s_is_edge) .none kV_is_edge dc_is_edge pm_is_edge an_is_edge cd_is_edge ct_is_edge), sl_is_edge⟩)
    (c_is_edge : codeIn K cd_is_edge "is_edge" = true) (q_is_edge : keepIn K (.ref f_is_edge) = true)
    (a_turn_in : nsIn K mainGlobals "turn_in" = some (some (.ref f_turn_in)))
    (l_turn_in : K.lookup f_turn_in = some ⟨oc_turn_in, od_turn_in, .func (fnOf "turn_in" "turn_in" (L2.defArgs s_turn_in) (L2.defBody s_turn_in) (L2.defScope s_turn_in) .none kV_turn_in dc_turn_in pm_turn_in an_turn_in cd_turn_in ct_turn_in), sl_turn_in⟩)
    (c_turn_in : codeIn K cd_turn_in "turn_in" = true) (q_turn_in : keepIn K (.ref f_turn_in) = true)
    (a_arm_of_in : nsIn K mainGlobals "arm_of_in" = some (some (.ref f_arm_of_in)))
    (l_arm_of_in : K.lookup f_arm_of_in = some ⟨oc_arm_of_in, od_arm_of_in, .func (fnOf "arm_of_in" "arm_of_in" (L2.defArgs s_arm_of_in) (L2.defBody s_arm_of_in) (L2.defScope s_arm_of_in) .none kV_arm_of_in dc_arm_of_in pm_arm_of_in an_arm_of_in cd_arm_of_in ct_arm_of_in), sl_arm_of_in⟩)
    (c_arm_of_in : codeIn K cd_arm_of_in "arm_of_in" = true) (q_arm_of_in : keepIn K (.ref f_arm_of_in) = true)
    (a_area_in : nsIn K mainGlobals "area_in" = some (some (.ref f_area_in)))
    (l_area_in : K.lookup f_area_in = some ⟨oc_area_in, od_area_in, .func (fnOf "area_in" "area_in" (L2.defArgs s_area_in) (L2.defBody s_area_in) (L2.defScope s_area_in) .none kV_area_in dc_area_in pm_area_in an_area_in cd_area_in ct_area_in), sl_area_in⟩)
    (c_area_in : codeIn K cd_area_in "area_in" = true) (q_area_in : keepIn K (.ref f_area_in) = true)
    (a_sides_of : nsIn K mainGlobals "sides_of" = some (some (.ref f_sides_of)))
    (l_sides_of : K.lookup f_sides_of = some ⟨oc_sides_of, od_sides_of, .func (fnOf "sides_of" "sides_of" (L2.defArgs s_sides_of) (L2.defBody s_sides_of) (L2.defScope s_sides_of) .none kV_sides_of dc_sides_of pm_sides_of an_sides_of cd_sides_of ct_sides_of), sl_sides_of⟩)
    (c_sides_of : codeIn K cd_sides_of "sides_of" = true) (q_sides_of : keepIn K (.ref f_sides_of) = true)
    (a_is_on : nsIn K mainGlobals "is_on" = some (some (.ref f_is_on)))
    (l_is_on : K.lookup f_is_on = some ⟨oc_is_on, od_is_on, .func (fnOf "is_on" "is_on" (L2.defArgs s_is_on) (L2.defBody s_is_on) (L2.defScope s_is_on) .none kV_is_on dc_is_on pm_is_on an_is_on cd_is_on ct_is_on), sl_is_on⟩)
    (c_is_on : codeIn K cd_is_on "is_on" = true) (q_is_on : keepIn K (.ref f_is_on) = true)
    (a_touch : nsIn K mainGlobals "touch" = some (some (.ref f_touch)))
    (l_touch : K.lookup f_touch = some ⟨oc_touch, od_touch, .func (fnOf "touch" "touch" (L2.defArgs s_touch) (L2.defBody s_touch) (L2.defScope s_touch) .none kV_touch dc_touch pm_touch an_touch cd_touch ct_touch), sl_touch⟩)
    (c_touch : codeIn K cd_touch "touch" = true) (q_touch : keepIn K (.ref f_touch) = true)
    (a_are_corners : nsIn K mainGlobals "are_corners" = some (some (.ref f_are_corners)))
    (l_are_corners : K.lookup f_are_corners = some ⟨oc_are_corners, od_are_corners, .func (fnOf "are_corners" "are_corners" (L2.defArgs s_are_corners) (L2.defBody s_are_corners) (L2.defScope s_are_corners) .none kV_are_corners dc_are_corners pm_are_corners an_are_corners cd_are_corners ct_are_corners), sl_are_corners⟩)
    (c_are_corners : codeIn K cd_are_corners "are_corners" = true) (q_are_corners : keepIn K (.ref f_are_corners) = true)
    (a_is_field : nsIn K mainGlobals "is_field" = some (some (.ref f_is_field)))
    (l_is_field : K.lookup f_is_field = some ⟨oc_is_field, od_is_field, .func (fnOf "is_field" "is_field" (L2.defArgs s_is_field) (L2.defBody s_is_field) (L2.defScope s_is_field) .none kV_is_field dc_is_field pm_is_field an_is_field cd_is_field ct_is_field), sl_is_field⟩)
    (c_is_field : codeIn K cd_is_field "is_field" = true) (q_is_field : keepIn K (.ref f_is_field) = true)
    (a_run_from : nsIn K mainGlobals "run_from" = some (some (.ref f_run_from)))
    (l_run_from : K.lookup f_run_from = some ⟨oc_run_from, od_run_from, .func (fnOf "run_from" "run_from" (L2.defArgs s_run_from) (L2.defBody s_run_from) (L2.defScope s_run_from) .none kV_run_from dc_run_from pm_run_from an_run_from cd_run_from ct_run_from), sl_run_from⟩)
    (c_run_from : codeIn K cd_run_from "run_from" = true) (q_run_from : keepIn K (.ref f_run_from) = true)
    (a_line_pieces : nsIn K mainGlobals "line_pieces" = some (some (.ref f_line_pieces)))
    (l_line_pieces : K.lookup f_line_pieces = some ⟨oc_line_pieces, od_line_pieces, .func (fnOf "line_pieces" "line_pieces" (L2.defArgs s_line_pieces) (L2.defBody s_line_pieces) (L2.defScope s_line_pieces) .none kV_line_pieces dc_line_pieces pm_line_pieces an_line_pieces cd_line_pieces ct_line_pieces), sl_line_pieces⟩)
    (c_line_pieces : codeIn K cd_line_pieces "line_pieces" = true) (q_line_pieces : keepIn K (.ref f_line_pieces) = true)
    (a_pieces : nsIn K mainGlobals "pieces" = some (some (.ref f_pieces)))
    (l_pieces : K.lookup f_pieces = some ⟨oc_pieces, od_pieces, .func (fnOf "pieces" "pieces" (L2.defArgs s_pieces) (L2.defBody s_pieces) (L2.defScope s_pieces) .none kV_pieces dc_pieces pm_pieces an_pieces cd_pieces ct_pieces), sl_pieces⟩)
    (c_pieces : codeIn K cd_pieces "pieces" = true) (q_pieces : keepIn K (.ref f_pieces) = true)
    (a_is_figures : nsIn K mainGlobals "is_figures" = some (some (.ref f_is_figures)))
    (l_is_figures : K.lookup f_is_figures = some ⟨oc_is_figures, od_is_figures, .func (fnOf "is_figures" "is_figures" (L2.defArgs s_is_figures) (L2.defBody s_is_figures) (L2.defScope s_is_figures) .none kV_is_figures dc_is_figures pm_is_figures an_is_figures cd_is_figures ct_is_figures), sl_is_figures⟩)
    (c_is_figures : codeIn K cd_is_figures "is_figures" = true) (q_is_figures : keepIn K (.ref f_is_figures) = true)
    (a_number_of : nsIn K mainGlobals "number_of" = some (some (.ref f_number_of)))
    (l_number_of : K.lookup f_number_of = some ⟨oc_number_of, od_number_of, .func (fnOf "number_of" "number_of" (L2.defArgs s_number_of) (L2.defBody s_number_of) (L2.defScope s_number_of) .none kV_number_of dc_number_of pm_number_of an_number_of cd_number_of ct_number_of), sl_number_of⟩)
    (c_number_of : codeIn K cd_number_of "number_of" = true) (q_number_of : keepIn K (.ref f_number_of) = true)
    (a_is_plan_told : nsIn K mainGlobals "is_plan_told" = some (some (.ref f_is_plan_told)))
    (l_is_plan_told : K.lookup f_is_plan_told = some ⟨oc_is_plan_told, od_is_plan_told, .func (fnOf "is_plan_told" "is_plan_told" (L2.defArgs s_is_plan_told) (L2.defBody s_is_plan_told) (L2.defScope s_is_plan_told) .none kV_is_plan_told dc_is_plan_told pm_is_plan_told an_is_plan_told cd_is_plan_told ct_is_plan_told), sl_is_plan_told⟩)
    (c_is_plan_told : codeIn K cd_is_plan_told "is_plan_told" = true) (q_is_plan_told : keepIn K (.ref f_is_plan_told) = true)
    (a_rows_of_pieces : nsIn K mainGlobals "rows_of_pieces" = some (some (.ref f_rows_of_pieces)))
    (l_rows_of_pieces : K.lookup f_rows_of_pieces = some ⟨oc_rows_of_pieces, od_rows_of_pieces, .func (fnOf "rows_of_pieces" "rows_of_pieces" (L2.defArgs s_rows_of_pieces) (L2.defBody s_rows_of_pieces) (L2.defScope s_rows_of_pieces) .none kV_rows_of_pieces dc_rows_of_pieces pm_rows_of_pieces an_rows_of_pieces cd_rows_of_pieces ct_rows_of_pieces), sl_rows_of_pieces⟩)
    (c_rows_of_pieces : codeIn K cd_rows_of_pieces "rows_of_pieces" = true) (q_rows_of_pieces : keepIn K (.ref f_rows_of_pieces) = true)
    (a_pairs_told : nsIn K mainGlobals "pairs_told" = some (some (.ref f_pairs_told)))
    (l_pairs_told : K.lookup f_pairs_told = some ⟨oc_pairs_told, od_pairs_told, .func (fnOf "pairs_told" "pairs_told" (L2.defArgs s_pairs_told) (L2.defBody s_pairs_told) (L2.defScope s_pairs_told) .none kV_pairs_told dc_pairs_told pm_pairs_told an_pairs_told cd_pairs_told ct_pairs_told), sl_pairs_told⟩)
    (c_pairs_told : codeIn K cd_pairs_told "pairs_told" = true) (q_pairs_told : keepIn K (.ref f_pairs_told) = true)
    (a_edge_told : nsIn K mainGlobals "edge_told" = some (some (.ref f_edge_told)))
    (l_edge_told : K.lookup f_edge_told = some ⟨oc_edge_told, od_edge_told, .func (fnOf "edge_told" "edge_told" (L2.defArgs s_edge_told) (L2.defBody s_edge_told) (L2.defScope s_edge_told) .none kV_edge_told dc_edge_told pm_edge_told an_edge_told cd_edge_told ct_edge_told), sl_edge_told⟩)
    (c_edge_told : codeIn K cd_edge_told "edge_told" = true) (q_edge_told : keepIn K (.ref f_edge_told) = true)
    (a_turn_told : nsIn K mainGlobals "turn_told" = some (some (.ref f_turn_told)))
    (l_turn_told : K.lookup f_turn_told = some ⟨oc_turn_told, od_turn_told, .func (fnOf "turn_told" "turn_told" (L2.defArgs s_turn_told) (L2.defBody s_turn_told) (L2.defScope s_turn_told) .none kV_turn_told dc_turn_told pm_turn_told an_turn_told cd_turn_told ct_turn_told), sl_turn_told⟩)
    (c_turn_told : codeIn K cd_turn_told "turn_told" = true) (q_turn_told : keepIn K (.ref f_turn_told) = true)
    (a_read_sheet : nsIn K mainGlobals "read_sheet" = some (some (.ref f_read_sheet)))
    (l_read_sheet : K.lookup f_read_sheet = some ⟨oc_read_sheet, od_read_sheet, .func (fnOf "read_sheet" "read_sheet" (L2.defArgs s_read_sheet) (L2.defBody s_read_sheet) (L2.defScope s_read_sheet) .none kV_read_sheet dc_read_sheet pm_read_sheet an_read_sheet cd_read_sheet ct_read_sheet), sl_read_sheet⟩)
    (c_read_sheet : codeIn K cd_read_sheet "read_sheet" = true) (q_read_sheet : keepIn K (.ref f_read_sheet) = true)
    (a_law_box : nsIn K mainGlobals "_law_box" = some (some (.ref f_law_box)))
    (l_law_box : K.lookup f_law_box = some ⟨oc_law_box, od_law_box, .func (fnOf "_law_box" "_law_box" (L2.defArgs s_law_box) (L2.defBody s_law_box) (L2.defScope s_law_box) .none kV_law_box dc_law_box pm_law_box an_law_box cd_law_box ct_law_box), sl_law_box⟩)
    (c_law_box : codeIn K cd_law_box "_law_box" = true) (q_law_box : keepIn K (.ref f_law_box) = true)
    (a_law_take : nsIn K mainGlobals "_law_take" = some (some (.ref f_law_take)))
    (l_law_take : K.lookup f_law_take = some ⟨oc_law_take, od_law_take, .func (fnOf "_law_take" "_law_take" (L2.defArgs s_law_take) (L2.defBody s_law_take) (L2.defScope s_law_take) .none kV_law_take dc_law_take pm_law_take an_law_take cd_law_take ct_law_take), sl_law_take⟩)
    (c_law_take : codeIn K cd_law_take "_law_take" = true) (q_law_take : keepIn K (.ref f_law_take) = true)
    (a_law_cells : nsIn K mainGlobals "_law_cells" = some (some (.ref f_law_cells)))
    (l_law_cells : K.lookup f_law_cells = some ⟨oc_law_cells, od_law_cells, .func (fnOf "_law_cells" "_law_cells" (L2.defArgs s_law_cells) (L2.defBody s_law_cells) (L2.defScope s_law_cells) .none kV_law_cells dc_law_cells pm_law_cells an_law_cells cd_law_cells ct_law_cells), sl_law_cells⟩)
    (c_law_cells : codeIn K cd_law_cells "_law_cells" = true) (q_law_cells : keepIn K (.ref f_law_cells) = true)
    (a_law_of : nsIn K mainGlobals "_law_of" = some (some (.ref f_law_of)))
    (l_law_of : K.lookup f_law_of = some ⟨oc_law_of, od_law_of, .func (fnOf "_law_of" "_law_of" (L2.defArgs s_law_of) (L2.defBody s_law_of) (L2.defScope s_law_of) .none kV_law_of dc_law_of pm_law_of an_law_of cd_law_of ct_law_of), sl_law_of⟩)
    (c_law_of : codeIn K cd_law_of "_law_of" = true) (q_law_of : keepIn K (.ref f_law_of) = true)
    (a_law_same : nsIn K mainGlobals "_law_same" = some (some (.ref f_law_same)))
    (l_law_same : K.lookup f_law_same = some ⟨oc_law_same, od_law_same, .func (fnOf "_law_same" "_law_same" (L2.defArgs s_law_same) (L2.defBody s_law_same) (L2.defScope s_law_same) .none kV_law_same dc_law_same pm_law_same an_law_same cd_law_same ct_law_same), sl_law_same⟩)
    (c_law_same : codeIn K cd_law_same "_law_same" = true) (q_law_same : keepIn K (.ref f_law_same) = true)
    (a_law_pairs_round : nsIn K mainGlobals "_law_pairs_round" = some (some (.ref f_law_pairs_round)))
    (l_law_pairs_round : K.lookup f_law_pairs_round = some ⟨oc_law_pairs_round, od_law_pairs_round, .func (fnOf "_law_pairs_round" "_law_pairs_round" (L2.defArgs s_law_pairs_round) (L2.defBody s_law_pairs_round) (L2.defScope s_law_pairs_round) .none kV_law_pairs_round dc_law_pairs_round pm_law_pairs_round an_law_pairs_round cd_law_pairs_round ct_law_pairs_round), sl_law_pairs_round⟩)
    (c_law_pairs_round : codeIn K cd_law_pairs_round "_law_pairs_round" = true) (q_law_pairs_round : keepIn K (.ref f_law_pairs_round) = true)
    (a_law_grounds : nsIn K mainGlobals "_law_grounds" = some (some (.ref f_law_grounds)))
    (l_law_grounds : K.lookup f_law_grounds = some ⟨oc_law_grounds, od_law_grounds, .func (fnOf "_law_grounds" "_law_grounds" (L2.defArgs s_law_grounds) (L2.defBody s_law_grounds) (L2.defScope s_law_grounds) .none kV_law_grounds dc_law_grounds pm_law_grounds an_law_grounds cd_law_grounds ct_law_grounds), sl_law_grounds⟩)
    (c_law_grounds : codeIn K cd_law_grounds "_law_grounds" = true) (q_law_grounds : keepIn K (.ref f_law_grounds) = true)
    (a_law_told_round : nsIn K mainGlobals "_law_told_round" = some (some (.ref f_law_told_round)))
    (l_law_told_round : K.lookup f_law_told_round = some ⟨oc_law_told_round, od_law_told_round, .func (fnOf "_law_told_round" "_law_told_round" (L2.defArgs s_law_told_round) (L2.defBody s_law_told_round) (L2.defScope s_law_told_round) .none kV_law_told_round dc_law_told_round pm_law_told_round an_law_told_round cd_law_told_round ct_law_told_round), sl_law_told_round⟩)
    (c_law_told_round : codeIn K cd_law_told_round "_law_told_round" = true) (q_law_told_round : keepIn K (.ref f_law_told_round) = true)
    (a_law_ground : nsIn K mainGlobals "_law_ground" = some (some (.ref f_law_ground)))
    (l_law_ground : K.lookup f_law_ground = some ⟨oc_law_ground, od_law_ground, .func (fnOf "_law_ground" "_law_ground" (L2.defArgs s_law_ground) (L2.defBody s_law_ground) (L2.defScope s_law_ground) .none kV_law_ground dc_law_ground pm_law_ground an_law_ground cd_law_ground ct_law_ground), sl_law_ground⟩)
    (c_law_ground : codeIn K cd_law_ground "_law_ground" = true) (q_law_ground : keepIn K (.ref f_law_ground) = true)
    (a_law_any_brink : nsIn K mainGlobals "_law_any_brink" = some (some (.ref f_law_any_brink)))
    (l_law_any_brink : K.lookup f_law_any_brink = some ⟨oc_law_any_brink, od_law_any_brink, .func (fnOf "_law_any_brink" "_law_any_brink" (L2.defArgs s_law_any_brink) (L2.defBody s_law_any_brink) (L2.defScope s_law_any_brink) .none kV_law_any_brink dc_law_any_brink pm_law_any_brink an_law_any_brink cd_law_any_brink ct_law_any_brink), sl_law_any_brink⟩)
    (c_law_any_brink : codeIn K cd_law_any_brink "_law_any_brink" = true) (q_law_any_brink : keepIn K (.ref f_law_any_brink) = true)
    (a_law_any_half : nsIn K mainGlobals "_law_any_half" = some (some (.ref f_law_any_half)))
    (l_law_any_half : K.lookup f_law_any_half = some ⟨oc_law_any_half, od_law_any_half, .func (fnOf "_law_any_half" "_law_any_half" (L2.defArgs s_law_any_half) (L2.defBody s_law_any_half) (L2.defScope s_law_any_half) .none kV_law_any_half dc_law_any_half pm_law_any_half an_law_any_half cd_law_any_half ct_law_any_half), sl_law_any_half⟩)
    (c_law_any_half : codeIn K cd_law_any_half "_law_any_half" = true) (q_law_any_half : keepIn K (.ref f_law_any_half) = true)
    (a_law_sheet : nsIn K mainGlobals "_law_sheet" = some (some (.ref f_law_sheet)))
    (l_law_sheet : K.lookup f_law_sheet = some ⟨oc_law_sheet, od_law_sheet, .func (fnOf "_law_sheet" "_law_sheet" (L2.defArgs s_law_sheet) (L2.defBody s_law_sheet) (L2.defScope s_law_sheet) .none kV_law_sheet dc_law_sheet pm_law_sheet an_law_sheet cd_law_sheet ct_law_sheet), sl_law_sheet⟩)
    (c_law_sheet : codeIn K cd_law_sheet "_law_sheet" = true) (q_law_sheet : keepIn K (.ref f_law_sheet) = true)
    (a_law_sheet_rows : nsIn K mainGlobals "_law_sheet_rows" = some (some (.ref f_law_sheet_rows)))
    (l_law_sheet_rows : K.lookup f_law_sheet_rows = some ⟨oc_law_sheet_rows, od_law_sheet_rows, .func (fnOf "_law_sheet_rows" "_law_sheet_rows" (L2.defArgs s_law_sheet_rows) (L2.defBody s_law_sheet_rows) (L2.defScope s_law_sheet_rows) .none kV_law_sheet_rows dc_law_sheet_rows pm_law_sheet_rows an_law_sheet_rows cd_law_sheet_rows ct_law_sheet_rows), sl_law_sheet_rows⟩)
    (c_law_sheet_rows : codeIn K cd_law_sheet_rows "_law_sheet_rows" = true) (q_law_sheet_rows : keepIn K (.ref f_law_sheet_rows) = true)
    (a_law_wide_text : nsIn K mainGlobals "_law_wide_text" = some (some (.ref f_law_wide_text)))
    (l_law_wide_text : K.lookup f_law_wide_text = some ⟨oc_law_wide_text, od_law_wide_text, .func (fnOf "_law_wide_text" "_law_wide_text" (L2.defArgs s_law_wide_text) (L2.defBody s_law_wide_text) (L2.defScope s_law_wide_text) .none kV_law_wide_text dc_law_wide_text pm_law_wide_text an_law_wide_text cd_law_wide_text ct_law_wide_text), sl_law_wide_text⟩)
    (c_law_wide_text : codeIn K cd_law_wide_text "_law_wide_text" = true) (q_law_wide_text : keepIn K (.ref f_law_wide_text) = true)
    (a_law_heard : nsIn K mainGlobals "_law_heard" = some (some (.ref f_law_heard)))
    (l_law_heard : K.lookup f_law_heard = some ⟨oc_law_heard, od_law_heard, .func (fnOf "_law_heard" "_law_heard" (L2.defArgs s_law_heard) (L2.defBody s_law_heard) (L2.defScope s_law_heard) .none kV_law_heard dc_law_heard pm_law_heard an_law_heard cd_law_heard ct_law_heard), sl_law_heard⟩)
    (c_law_heard : codeIn K cd_law_heard "_law_heard" = true) (q_law_heard : keepIn K (.ref f_law_heard) = true)
    (a_law_faults : nsIn K mainGlobals "_law_faults" = some (some (.ref f_law_faults)))
    (l_law_faults : K.lookup f_law_faults = some ⟨oc_law_faults, od_law_faults, .func (fnOf "_law_faults" "_law_faults" (L2.defArgs s_law_faults) (L2.defBody s_law_faults) (L2.defScope s_law_faults) .none kV_law_faults dc_law_faults pm_law_faults an_law_faults cd_law_faults ct_law_faults), sl_law_faults⟩)
    (c_law_faults : codeIn K cd_law_faults "_law_faults" = true) (q_law_faults : keepIn K (.ref f_law_faults) = true)
    (a_law_table_right : nsIn K mainGlobals "_law_table_right" = some (some (.ref f_law_table_right)))
    (l_law_table_right : K.lookup f_law_table_right = some ⟨oc_law_table_right, od_law_table_right, .func (fnOf "_law_table_right" "_law_table_right" (L2.defArgs s_law_table_right) (L2.defBody s_law_table_right) (L2.defScope s_law_table_right) .none kV_law_table_right dc_law_table_right pm_law_table_right an_law_table_right cd_law_table_right ct_law_table_right), sl_law_table_right⟩)
    (c_law_table_right : codeIn K cd_law_table_right "_law_table_right" = true) (q_law_table_right : keepIn K (.ref f_law_table_right) = true)
    (a_law_right : nsIn K mainGlobals "_law_right" = some (some (.ref f_law_right)))
    (l_law_right : K.lookup f_law_right = some ⟨oc_law_right, od_law_right, .func (fnOf "_law_right" "_law_right" (L2.defArgs s_law_right) (L2.defBody s_law_right) (L2.defScope s_law_right) .none kV_law_right dc_law_right pm_law_right an_law_right cd_law_right ct_law_right), sl_law_right⟩)
    (c_law_right : codeIn K cd_law_right "_law_right" = true) (q_law_right : keepIn K (.ref f_law_right) = true)
    (a_law : nsIn K mainGlobals "law" = some (some (.ref f_law)))
    (l_law : K.lookup f_law = some ⟨oc_law, od_law, .func (fnOf "law" "law" (L2.defArgs s_law) (L2.defBody s_law) (L2.defScope s_law) .none kV_law dc_law pm_law an_law cd_law ct_law), sl_law⟩)
    (c_law : codeIn K cd_law "law" = true) (q_law : keepIn K (.ref f_law) = true) : Tx K mg :=
  { n_len := mg_none_of X G z_len,
    n_min := mg_none_of X G z_min,
    n_max := mg_none_of X G z_max,
    n_sum := mg_none_of X G z_sum,
    n_any := mg_none_of X G z_any,
    n_all := mg_none_of X G z_all,
    n_int := mg_none_of X G z_int,
    n_bool := mg_none_of X G z_bool,
    n_str := mg_none_of X G z_str,
    n_list := mg_none_of X G z_list,
    n_tuple := mg_none_of X G z_tuple,
    n_set := mg_none_of X G z_set,
    n_sorted := mg_none_of X G z_sorted,
    n_range := mg_none_of X G z_range,
    n_enumerate := mg_none_of X G z_enumerate,
    n_zip := mg_none_of X G z_zip,
    n_isinstance := mg_none_of X G z_isinstance,
    n_abs := mg_none_of X G z_abs,
    n_gcd := mg_of X G z_gcd,
    t_FIGURES := t_FIGURES, k_FIGURES := mg_of X G k_FIGURES,
    t_SIGNS := t_SIGNS, k_SIGNS := mg_of X G k_SIGNS,
    t_LONGEST := t_LONGEST, k_LONGEST := mg_of X G k_LONGEST,
    t_BELOW := t_BELOW, k_BELOW := mg_of X G k_BELOW,
    t_REMARK := t_REMARK, k_REMARK := mg_of X G k_REMARK,
    t_FIELD := t_FIELD, k_FIELD := mg_of X G k_FIELD,
    t_EDGE := t_EDGE, k_EDGE := mg_of X G k_EDGE,
    t_TURN := t_TURN, k_TURN := mg_of X G k_TURN,
    a_is_number := f_is_number, d_is_number := _, g_is_number := mg_of X G a_is_number, F_is_number := L2.fun_mk l_is_number c_is_number q_is_number,
    a_is_long := f_is_long, d_is_long := _, g_is_long := mg_of X G a_is_long, F_is_long := L2.fun_mk l_is_long c_is_long q_is_long,
    a_is_dot := f_is_dot, d_is_dot := _, g_is_dot := mg_of X G a_is_dot, F_is_dot := L2.fun_mk l_is_dot c_is_dot q_is_dot,
    a_is_arm := f_is_arm, d_is_arm := _, g_is_arm := mg_of X G a_is_arm, F_is_arm := L2.fun_mk l_is_arm c_is_arm q_is_arm,
    a_is_edge := f_is_edge, d_is_edge := _, g_is_edge := mg_of X G a_is_edge, F_is_edge := L2.fun_mk l_is_edge c_is_edge q_is_edge,
    a_turn_in := f_turn_in, d_turn_in := _, g_turn_in := mg_of X G a_turn_in, F_turn_in := L2.fun_mk l_turn_in c_turn_in q_turn_in,
    a_arm_of_in := f_arm_of_in, d_arm_of_in := _, g_arm_of_in := mg_of X G a_arm_of_in, F_arm_of_in := L2.fun_mk l_arm_of_in c_arm_of_in q_arm_of_in,
    a_area_in := f_area_in, d_area_in := _, g_area_in := mg_of X G a_area_in, F_area_in := L2.fun_mk l_area_in c_area_in q_area_in,
    a_sides_of := f_sides_of, d_sides_of := _, g_sides_of := mg_of X G a_sides_of, F_sides_of := L2.fun_mk l_sides_of c_sides_of q_sides_of,
    a_is_on := f_is_on, d_is_on := _, g_is_on := mg_of X G a_is_on, F_is_on := L2.fun_mk l_is_on c_is_on q_is_on,
    a_touch := f_touch, d_touch := _, g_touch := mg_of X G a_touch, F_touch := L2.fun_mk l_touch c_touch q_touch,
    a_are_corners := f_are_corners, d_are_corners := _, g_are_corners := mg_of X G a_are_corners, F_are_corners := L2.fun_mk l_are_corners c_are_corners q_are_corners,
    a_is_field := f_is_field, d_is_field := _, g_is_field := mg_of X G a_is_field, F_is_field := L2.fun_mk l_is_field c_is_field q_is_field,
    a_run_from := f_run_from, d_run_from := _, g_run_from := mg_of X G a_run_from, F_run_from := L2.fun_mk l_run_from c_run_from q_run_from,
    a_line_pieces := f_line_pieces, d_line_pieces := _, g_line_pieces := mg_of X G a_line_pieces, F_line_pieces := L2.fun_mk l_line_pieces c_line_pieces q_line_pieces,
    a_pieces := f_pieces, d_pieces := _, g_pieces := mg_of X G a_pieces, F_pieces := L2.fun_mk l_pieces c_pieces q_pieces,
    a_is_figures := f_is_figures, d_is_figures := _, g_is_figures := mg_of X G a_is_figures, F_is_figures := L2.fun_mk l_is_figures c_is_figures q_is_figures,
    a_number_of := f_number_of, d_number_of := _, g_number_of := mg_of X G a_number_of, F_number_of := L2.fun_mk l_number_of c_number_of q_number_of,
    a_is_plan_told := f_is_plan_told, d_is_plan_told := _, g_is_plan_told := mg_of X G a_is_plan_told, F_is_plan_told := L2.fun_mk l_is_plan_told c_is_plan_told q_is_plan_told,
    a_rows_of_pieces := f_rows_of_pieces, d_rows_of_pieces := _, g_rows_of_pieces := mg_of X G a_rows_of_pieces, F_rows_of_pieces := L2.fun_mk l_rows_of_pieces c_rows_of_pieces q_rows_of_pieces,
    a_pairs_told := f_pairs_told, d_pairs_told := _, g_pairs_told := mg_of X G a_pairs_told, F_pairs_told := L2.fun_mk l_pairs_told c_pairs_told q_pairs_told,
    a_edge_told := f_edge_told, d_edge_told := _, g_edge_told := mg_of X G a_edge_told, F_edge_told := L2.fun_mk l_edge_told c_edge_told q_edge_told,
    a_turn_told := f_turn_told, d_turn_told := _, g_turn_told := mg_of X G a_turn_told, F_turn_told := L2.fun_mk l_turn_told c_turn_told q_turn_told,
    a_read_sheet := f_read_sheet, d_read_sheet := _, g_read_sheet := mg_of X G a_read_sheet, F_read_sheet := L2.fun_mk l_read_sheet c_read_sheet q_read_sheet,
    a_law_box := f_law_box, d_law_box := _, g_law_box := mg_of X G a_law_box, F_law_box := L2.fun_mk l_law_box c_law_box q_law_box,
    a_law_take := f_law_take, d_law_take := _, g_law_take := mg_of X G a_law_take, F_law_take := L2.fun_mk l_law_take c_law_take q_law_take,
    a_law_cells := f_law_cells, d_law_cells := _, g_law_cells := mg_of X G a_law_cells, F_law_cells := L2.fun_mk l_law_cells c_law_cells q_law_cells,
    a_law_of := f_law_of, d_law_of := _, g_law_of := mg_of X G a_law_of, F_law_of := L2.fun_mk l_law_of c_law_of q_law_of,
    a_law_same := f_law_same, d_law_same := _, g_law_same := mg_of X G a_law_same, F_law_same := L2.fun_mk l_law_same c_law_same q_law_same,
    a_law_pairs_round := f_law_pairs_round, d_law_pairs_round := _, g_law_pairs_round := mg_of X G a_law_pairs_round, F_law_pairs_round := L2.fun_mk l_law_pairs_round c_law_pairs_round q_law_pairs_round,
    a_law_grounds := f_law_grounds, d_law_grounds := _, g_law_grounds := mg_of X G a_law_grounds, F_law_grounds := L2.fun_mk l_law_grounds c_law_grounds q_law_grounds,
    a_law_told_round := f_law_told_round, d_law_told_round := _, g_law_told_round := mg_of X G a_law_told_round, F_law_told_round := L2.fun_mk l_law_told_round c_law_told_round q_law_told_round,
    a_law_ground := f_law_ground, d_law_ground := _, g_law_ground := mg_of X G a_law_ground, F_law_ground := L2.fun_mk l_law_ground c_law_ground q_law_ground,
    a_law_any_brink := f_law_any_brink, d_law_any_brink := _, g_law_any_brink := mg_of X G a_law_any_brink, F_law_any_brink := L2.fun_mk l_law_any_brink c_law_any_brink q_law_any_brink,
    a_law_any_half := f_law_any_half, d_law_any_half := _, g_law_any_half := mg_of X G a_law_any_half, F_law_any_half := L2.fun_mk l_law_any_half c_law_any_half q_law_any_half,
    a_law_sheet := f_law_sheet, d_law_sheet := _, g_law_sheet := mg_of X G a_law_sheet, F_law_sheet := L2.fun_mk l_law_sheet c_law_sheet q_law_sheet,
    a_law_sheet_rows := f_law_sheet_rows, d_law_sheet_rows := _, g_law_sheet_rows := mg_of X G a_law_sheet_rows, F_law_sheet_rows := L2.fun_mk l_law_sheet_rows c_law_sheet_rows q_law_sheet_rows,
    a_law_wide_text := f_law_wide_text, d_law_wide_text := _, g_law_wide_text := mg_of X G a_law_wide_text, F_law_wide_text := L2.fun_mk l_law_wide_text c_law_wide_text q_law_wide_text,
    a_law_heard := f_law_heard, d_law_heard := _, g_law_heard := mg_of X G a_law_heard, F_law_heard := L2.fun_mk l_law_heard c_law_heard q_law_heard,
    a_law_faults := f_law_faults, d_law_faults := _, g_law_faults := mg_of X G a_law_faults, F_law_faults := L2.fun_mk l_law_faults c_law_faults q_law_faults,
    a_law_table_right := f_law_table_right, d_law_table_right := _, g_law_table_right := mg_of X G a_law_table_right, F_law_table_right := L2.fun_mk l_law_table_right c_law_table_right q_law_table_right,
    a_law_right := f_law_right, d_law_right := _, g_law_right := mg_of X G a_law_right, F_law_right := L2.fun_mk l_law_right c_law_right q_law_right,
    a_law := f_law, d_law := _, g_law := mg_of X G a_law, F_law := L2.fun_mk l_law c_law q_law }
end
theorem all_mk {l : PySem.W.OpenLaw} {w : World} {K : PySem.W.Frag} {mg : Str → Option Value} {fa C fI : Addr} (hfa : mg "law" = some (.ref fa)) (T : Tx K mg) (B : Mr.BadTxt l.prog K mg C fI) (nV : mg "ValueError" = none) (hb : ∀ (s : Shared) (u : Value), BindsTo s T.d_law ⟨[u], []⟩ [("_law_script", u)]) :
    ∃ fd : FuncData, (∀ (s : Shared) (u : Value), BindsTo s fd ⟨[u], []⟩ [("_law_script", u)]) ∧ ∀ base : Heap, K.In base → base.Ns mainGlobals mg → FnOk l.prog w K mg base CX0 11 fa fd ["_law_script"] (spLaw K) := by
  have e := hfa.symm.trans T.g_law
  cases e
  exact ⟨T.d_law, hb, fun base _ _ => ok_law T B nV⟩
theorem walk {l : PySem.W.OpenLaw} {q : Program} {loose : List Str} {XP : (Str → Option Value) → Heap → Prop} {YP : World → Heap → Prop} {d : DefRec} {K : Params → PySem.W.Frag} (hn : l.most = some 63) (hdf : d.params.defaults = [])
    (hY : ∀ (w : World) (h : Heap), YP w h → (K w.params).In h)
    (F : ∀ (w : World) (mg : Str → Option Value) (fa : Addr) (h : Heap), (K w.params).In h → h.Ns mainGlobals mg → mg d.name = some (.ref fa) →
      ∃ fd : FuncData, (∀ (s : Shared) (u : Value), BindsTo s fd ⟨[u], []⟩ [("_law_script", u)]) ∧ ∀ base : Heap, (K w.params).In base → base.Ns mainGlobals mg → FnOk l.prog w (K w.params) mg base CX0 11 fa fd ["_law_script"] (spLaw (K w.params))) :
    PySem.W.WalkO q loose XP YP l.row.toRowW d [] (fun f vs => PySem.call f vs) :=
  L2.walk_of (n := 63) (k := 11) (x := "_law_script") (CX := fun _ => CX0) (sp := fun w => spLaw (K w.params)) hn (by decide) hdf ⟨rfl, by decide, by decide⟩ hY F (fun _ _ a ns hl _ hS => ⟨a, ns, rfl, hl, hS, fun _ => rfl⟩) fun _ _ _ _ _ z => z
end Md
open PySem PySem.W PyProof.Rows
set_option maxRecDepth 100000 in
set_option maxHeartbeats 0 in
theorem PySem.Challenge.cw_middledots_k43_whole_bent_texts_holds : PySem.Challenge.rw_middledots_k43_whole_bent_texts.Holds := by
  w_on; o_law; k_head; (case hw => w_witness2)
  k_fill
  refine Md.walk (l := PySem.Challenge.rw_middledots_k43_whole_bent_texts) rfl rfl (fun w h Y => PySem.W.kIn_of Y) ?F
  case F =>
    intro w mg fa h KX G hmg
    refine' Md.all_mk hmg ?T (Mr.bad_mk KX G ?bC ?xC ?al ?sa ?ga ?gg ?nn ?iC ?tI ?kC ?eC ?vC ?mC ?yC ?hC ?iS ?sS ?op ?su ?ht ?lI ?cI ?lD ?v2 ?hf ?lC) (PySem.W.mg_none_of KX G ?nV) ?hb
    (case bC => k_is)
    (case xC => k_is)
    (case al => ks_is)
    (case sa => k_is)
    (case ga => k_is)
    (case gg => k_is)
    (case nn => k_is)
    (case iC => k_is)
    (case tI => k_is)
    (case kC => k_is)
    (case eC => k_is)
    (case vC => k_is)
    (case mC => k_is)
    (case yC => k_is)
    (case hC => k_is)
    (case iS => k_is)
    (case sS => first | rfl | k_is)
    (case op => k_is)
    (case su => k_is)
    (case ht => rfl)
    (case lI => k_is)
    (case cI => k_is)
    (case lD => k_is)
    (case v2 => rfl)
    (case hf => first | rfl | decide +kernel)
    (case lC => k_is)
    (case nV => k_is)
    (case T =>
      refine' Md.tx_mk KX G ?z_len ?z_min ?z_max ?z_sum ?z_any ?z_all ?z_int ?z_bool ?z_str ?z_list ?z_tuple ?z_set ?z_sorted ?z_range ?z_enumerate ?z_zip ?z_isinstance ?z_abs ?z_gcd ?k_FIGURES ?k_SIGNS ?k_LONGEST ?k_BELOW ?k_REMARK ?k_FIELD ?k_EDGE ?k_TURN ?a_is_number ?l_is_number ?c_is_number ?q_is_number ?a_is_long ?l_is_long ?c_is_long ?q_is_long ?a_is_dot ?l_is_dot ?c_is_dot ?q_is_dot ?a_is_arm ?l_is_arm ?c_is_arm ?q_is_arm ?a_is_edge ?l_is_edge ?c_is_edge ?q_is_edge ?a_turn_in ?l_turn_in ?c_turn_in ?q_turn_in ?a_arm_of_in ?l_arm_of_in ?c_arm_of_in ?q_arm_of_in ?a_area_in ?l_area_in ?c_area_in ?q_area_in ?a_sides_of ?l_sides_of ?c_sides_of ?q_sides_of ?a_is_on ?l_is_on ?c_is_on ?q_is_on ?a_touch ?l_touch ?c_touch ?q_touch ?a_are_corners ?l_are_corners ?c_are_corners ?q_are_corners ?a_is_field ?l_is_field ?c_is_field ?q_is_field ?a_run_from ?l_run_from ?c_run_from ?q_run_from ?a_line_pieces ?l_line_pieces ?c_line_pieces ?q_line_pieces ?a_pieces ?l_pieces ?c_pieces ?q_pieces ?a_is_figures ?l_is_figures ?c_is_figures ?q_is_figures ?a_number_of ?l_number_of ?c_number_of ?q_number_of ?a_is_plan_told ?l_is_plan_told ?c_is_plan_told ?q_is_plan_told ?a_rows_of_pieces ?l_rows_of_pieces ?c_rows_of_pieces ?q_rows_of_pieces ?a_pairs_told ?l_pairs_told ?c_pairs_told ?q_pairs_told ?a_edge_told ?l_edge_told ?c_edge_told ?q_edge_told ?a_turn_told ?l_turn_told ?c_turn_told ?q_turn_told ?a_read_sheet ?l_read_sheet ?c_read_sheet ?q_read_sheet ?a_law_box ?l_law_box ?c_law_box ?q_law_box ?a_law_take ?l_law_take ?c_law_take ?q_law_take ?a_law_cells ?l_law_cells ?c_law_cells ?q_law_cells ?a_law_of ?l_law_of ?c_law_of ?q_law_of ?a_law_same ?l_law_same ?c_law_same ?q_law_same ?a_law_pairs_round ?l_law_pairs_round ?c_law_pairs_round ?q_law_pairs_round ?a_law_grounds ?l_law_grounds ?c_law_grounds ?q_law_grounds ?a_law_told_round ?l_law_told_round ?c_law_told_round ?q_law_told_round ?a_law_ground ?l_law_ground ?c_law_ground ?q_law_ground ?a_law_any_brink ?l_law_any_brink ?c_law_any_brink ?q_law_any_brink ?a_law_any_half ?l_law_any_half ?c_law_any_half ?q_law_any_half ?a_law_sheet ?l_law_sheet ?c_law_sheet ?q_law_sheet ?a_law_sheet_rows ?l_law_sheet_rows ?c_law_sheet_rows ?q_law_sheet_rows ?a_law_wide_text ?l_law_wide_text ?c_law_wide_text ?q_law_wide_text ?a_law_heard ?l_law_heard ?c_law_heard ?q_law_heard ?a_law_faults ?l_law_faults ?c_law_faults ?q_law_faults ?a_law_table_right ?l_law_table_right ?c_law_table_right ?q_law_table_right ?a_law_right ?l_law_right ?c_law_right ?q_law_right ?a_law ?l_law ?c_law ?q_law
      (case z_len => k_is)
      (case z_min => k_is)
      (case z_max => k_is)
      (case z_sum => k_is)
      (case z_any => k_is)
      (case z_all => k_is)
      (case z_int => k_is)
      (case z_bool => k_is)
      (case z_str => k_is)
      (case z_list => k_is)
      (case z_tuple => k_is)
      (case z_set => k_is)
      (case z_sorted => k_is)
      (case z_range => k_is)
      (case z_enumerate => k_is)
      (case z_zip => k_is)
      (case z_isinstance => k_is)
      (case z_abs => k_is)
      (case z_gcd => k_is)
      (case k_FIGURES => k_is)
      (case k_SIGNS => k_is)
      (case k_LONGEST => k_is)
      (case k_BELOW => k_is)
      (case k_REMARK => k_is)
      (case k_FIELD => k_is)
      (case k_EDGE => k_is)
      (case k_TURN => k_is)
      (case a_is_number => k_is)
      (case l_is_number => k_is)
      (case c_is_number => k_is)
      (case q_is_number => k_is)
      (case a_is_long => k_is)
      (case l_is_long => k_is)
      (case c_is_long => k_is)
      (case q_is_long => k_is)
      (case a_is_dot => k_is)
      (case l_is_dot => k_is)
      (case c_is_dot => k_is)
      (case q_is_dot => k_is)
      (case a_is_arm => k_is)
      (case l_is_arm => k_is)
      (case c_is_arm => k_is)
      (case q_is_arm => k_is)
      (case a_is_edge => k_is)
      (case l_is_edge => k_is)
      (case c_is_edge => k_is)
      (case q_is_edge => k_is)
      (case a_turn_in => k_is)
      (case l_turn_in => k_is)
      (case c_turn_in => k_is)
      (case q_turn_in => k_is)
      (case a_arm_of_in => k_is)
      (case l_arm_of_in => k_is)
      (case c_arm_of_in => k_is)
      (case q_arm_of_in => k_is)
      (case a_area_in => k_is)
      (case l_area_in => k_is)
      (case c_area_in => k_is)
      (case q_area_in => k_is)
      (case a_sides_of => k_is)
      (case l_sides_of => k_is)
      (case c_sides_of => k_is)
      (case q_sides_of => k_is)
      (case a_is_on => k_is)
      (case l_is_on => k_is)
      (case c_is_on => k_is)
      (case q_is_on => k_is)
      (case a_touch => k_is)
      (case l_touch => k_is)
      (case c_touch => k_is)
      (case q_touch => k_is)
      (case a_are_corners => k_is)
      (case l_are_corners => k_is)
      (case c_are_corners => k_is)
      (case q_are_corners => k_is)
      (case a_is_field => k_is)
      (case l_is_field => k_is)
      (case c_is_field => k_is)
      (case q_is_field => k_is)
      (case a_run_from => k_is)
      (case l_run_from => k_is)
      (case c_run_from => k_is)
      (case q_run_from => k_is)
      (case a_line_pieces => k_is)
      (case l_line_pieces => k_is)
      (case c_line_pieces => k_is)
      (case q_line_pieces => k_is)
      (case a_pieces => k_is)
      (case l_pieces => k_is)
      (case c_pieces => k_is)
      (case q_pieces => k_is)
      (case a_is_figures => k_is)
      (case l_is_figures => k_is)
      (case c_is_figures => k_is)
      (case q_is_figures => k_is)
      (case a_number_of => k_is)
      (case l_number_of => k_is)
      (case c_number_of => k_is)
      (case q_number_of => k_is)
      (case a_is_plan_told => k_is)
      (case l_is_plan_told => k_is)
      (case c_is_plan_told => k_is)
      (case q_is_plan_told => k_is)
      (case a_rows_of_pieces => k_is)
      (case l_rows_of_pieces => k_is)
      (case c_rows_of_pieces => k_is)
      (case q_rows_of_pieces => k_is)
      (case a_pairs_told => k_is)
      (case l_pairs_told => k_is)
      (case c_pairs_told => k_is)
      (case q_pairs_told => k_is)
      (case a_edge_told => k_is)
      (case l_edge_told => k_is)
      (case c_edge_told => k_is)
      (case q_edge_told => k_is)
      (case a_turn_told => k_is)
      (case l_turn_told => k_is)
      (case c_turn_told => k_is)
      (case q_turn_told => k_is)
      (case a_read_sheet => k_is)
      (case l_read_sheet => k_is)
      (case c_read_sheet => k_is)
      (case q_read_sheet => k_is)
      (case a_law_box => k_is)
      (case l_law_box => k_is)
      (case c_law_box => k_is)
      (case q_law_box => k_is)
      (case a_law_take => k_is)
      (case l_law_take => k_is)
      (case c_law_take => k_is)
      (case q_law_take => k_is)
      (case a_law_cells => k_is)
      (case l_law_cells => k_is)
      (case c_law_cells => k_is)
      (case q_law_cells => k_is)
      (case a_law_of => k_is)
      (case l_law_of => k_is)
      (case c_law_of => k_is)
      (case q_law_of => k_is)
      (case a_law_same => k_is)
      (case l_law_same => k_is)
      (case c_law_same => k_is)
      (case q_law_same => k_is)
      (case a_law_pairs_round => k_is)
      (case l_law_pairs_round => k_is)
      (case c_law_pairs_round => k_is)
      (case q_law_pairs_round => k_is)
      (case a_law_grounds => k_is)
      (case l_law_grounds => k_is)
      (case c_law_grounds => k_is)
      (case q_law_grounds => k_is)
      (case a_law_told_round => k_is)
      (case l_law_told_round => k_is)
      (case c_law_told_round => k_is)
      (case q_law_told_round => k_is)
      (case a_law_ground => k_is)
      (case l_law_ground => k_is)
      (case c_law_ground => k_is)
      (case q_law_ground => k_is)
      (case a_law_any_brink => k_is)
      (case l_law_any_brink => k_is)
      (case c_law_any_brink => k_is)
      (case q_law_any_brink => k_is)
      (case a_law_any_half => k_is)
      (case l_law_any_half => k_is)
      (case c_law_any_half => k_is)
      (case q_law_any_half => k_is)
      (case a_law_sheet => k_is)
      (case l_law_sheet => k_is)
      (case c_law_sheet => k_is)
      (case q_law_sheet => k_is)
      (case a_law_sheet_rows => k_is)
      (case l_law_sheet_rows => k_is)
      (case c_law_sheet_rows => k_is)
      (case q_law_sheet_rows => k_is)
      (case a_law_wide_text => k_is)
      (case l_law_wide_text => k_is)
      (case c_law_wide_text => k_is)
      (case q_law_wide_text => k_is)
      (case a_law_heard => k_is)
      (case l_law_heard => k_is)
      (case c_law_heard => k_is)
      (case q_law_heard => k_is)
      (case a_law_faults => k_is)
      (case l_law_faults => k_is)
      (case c_law_faults => k_is)
      (case q_law_faults => k_is)
      (case a_law_table_right => k_is)
      (case l_law_table_right => k_is)
      (case c_law_table_right => k_is)
      (case q_law_table_right => k_is)
      (case a_law_right => k_is)
      (case l_law_right => k_is)
      (case c_law_right => k_is)
      (case q_law_right => k_is)
      (case a_law => k_is)
      (case l_law => k_is)
      (case c_law => k_is)
      (case q_law => k_is))
    (case hb => exact fun s u => .of_eq rfl)
