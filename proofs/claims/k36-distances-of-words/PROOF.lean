import PyProof.Rows.All
import Wide.All
import OpenK.AllK
import Wide.FinOn
import HandS.ForMost
import HandS.Evl
import HandS.Exc
import HandS.Wide
import HandS.WordsExc
import HandS.Flow
import HandS.HeadHook2
import HandS.IsInst
import HandS.TupAny
import HandS.Walk
import HandS.Defaults
import HandS.ExcOwn
import PyProof.ReprRoads
import KE.KExcSuper
import HandS.ExcIs
import HandS.Ends
import KE.KExcIs
import HandS.ExcValue
import HandS.Head0
import HandS.Head1
import HandS.Head2
import HandS.HeadEnd
import HandS.HeadHook1
import HandS.Style
import KE.KRevSl
import PyProof.SliceStr2
import KE.KStateDown
import Lean
import PySem.Challenge.RW_tonguerules_k36_distances_of_words
set_option Elab.async false
set_option linter.all false
set_option maxRecDepth 100000
set_option maxHeartbeats 1000000
namespace TR
open PySem PySem.Spec L2
open Evl (Ex)

/-! ### weakest preconditions -/
section
variable (X : Cx)
def wE (e : Expr) : TE := fun σ H Q => ∀ pins s, Inv X pins σ H s → wpAny (model X.prog X.w) X.A (eval e X.env) (EP X pins σ Q) X.xe s
def wT (e : Expr) : TT := fun σ H Q => ∀ pins s, Inv X pins σ H s → wpAny (model X.prog X.w) X.A (isTrue e X.env (eval e X.env)) (TP X pins σ Q) X.xe s
def wA (es : List Expr) : TA := fun σ H Q => ∀ (pos : Pos) pins s, Inv X pins σ H s → wpAny (model X.prog X.w) X.A (spliced (backTo pos (starEach es X.env))) (AP X pins σ Q) X.xe s
def wS (st : Stmt) : TS := fun D σ H => ∀ pins s, Inv X pins σ H s → wpAny (model X.prog X.w) X.A (exec st X.env) (SP X pins D) X.xe s
def wSs (st : List Stmt) : TS := fun D σ H => ∀ pins s, Inv X pins σ H s → wpAny (model X.prog X.w) X.A (execs st X.env) (SP X pins D) X.xe s
def wG (tg : Expr) : TG := fun v σ H Q => ∀ pins s u, Inv X pins σ H s → RelV v u → wpAny (model X.prog X.w) X.A (assign tg X.env u) (fun _ s' => ∃ σ' H', Inv X pins σ' H' s' ∧ Q σ' H') X.xe s
end
section
variable {X : Cx}
theorem pE (e : Expr) : PE X e (wE X e) := ⟨fun pins s _ _ _ I h => h pins s I⟩
theorem pT (e : Expr) : PT X e (wT X e) := ⟨fun pins s _ _ _ I h => h pins s I⟩
theorem pA (es : List Expr) : PA X es (wA X es) := ⟨fun pos pins s _ _ _ I h => h pos pins s I⟩
theorem pS (st : Stmt) : PS X st (wS X st) := ⟨fun pins s _ _ _ I h => h pins s I⟩
theorem pSs (st : List Stmt) : PSs X st (wSs X st) := ⟨fun pins s _ _ _ I h => h pins s I⟩
theorem pG (tg : Expr) : PG X tg (wG X tg) := ⟨fun pins s _ _ _ u _ I r h => h pins s u I r⟩
theorem wE_of {e : Expr} {t : TE} (h : PE X e t) {σ : St} {H : Hp} {Q : VK} (q : t σ H Q) : wE X e σ H Q := fun pins s I => h.run pins s σ H Q I q
theorem wT_of {e : Expr} {t : TT} (h : PT X e t) {σ : St} {H : Hp} {Q : Bool → Hp → Prop} (q : t σ H Q) : wT X e σ H Q := fun pins s I => h.run pins s σ H Q I q
theorem wA_of {es : List Expr} {t : TA} (h : PA X es t) {σ : St} {H : Hp} {Q : List V → Hp → Prop} (q : t σ H Q) : wA X es σ H Q := fun pos pins s I => h.run pos pins s σ H Q I q
theorem wS_of {st : Stmt} {t : TS} (h : PS X st t) {σ : St} {H : Hp} {D : Ends} (q : t D σ H) : wS X st D σ H := fun pins s I => h.run pins s σ H D I q
theorem wSs_of {st : List Stmt} {t : TS} (h : PSs X st t) {σ : St} {H : Hp} {D : Ends} (q : t D σ H) : wSs X st D σ H := fun pins s I => h.run pins s σ H D I q
theorem wG_of {tg : Expr} {t : TG} (h : PG X tg t) {v : V} {σ : St} {H : Hp} {Q : St → Hp → Prop} (q : t v σ H Q) : wG X tg v σ H Q := fun pins s u I r => h.run pins s σ H v u Q I r q
end

/-! ### values of a slot, states -/
/-- what may be changed -/
inductive Cell where
  | lst (ds : List PyData)
/-- what a slot holds -/
inductive W where
  | un
  | dat (d : PyData)
  | own (c : Cell)
  | bor (k : Nat)
  /-- an error that was caught: its class, its value -/
  | exc (C : Str) (d : PyData)
/-- the slots; the borrowed cells -/
structure S where
  ws : List W
  bs : List Cell
/-- at a: an error of the class at C, its own dict at dd -/
def ExV (C dd a : Addr) : HO := .ext fun h => ∃ (oe : Obj) (vs : Array Value), h.get? a = some oe ∧ Zc (.ref C) (some dd) oe ∧ oe.data = .fields vs
section
variable (K : PySem.W.Frag) (F H : Hp)
def CellOk (p : Addr) : Cell → Prop
  | .lst ds => ∃ xs, H p = some (.lst xs) ∧ DpAll K F xs ds
def OkW (bd : List Addr) : W → Option V → Prop
  | .un, _ => True
  | .dat d, o => ∃ v, o = some v ∧ Dp K F v d
  | .own c, o => ∃ p, o = some (.ref p) ∧ CellOk K F H p c
  | .bor k, o => ∃ p, o = some (.ref p) ∧ bd[k]? = some p
  | .exc C d, o => ∃ a dd v, o = some (.ref a) ∧ F a = some (ExV (He.ga K C) dd a) ∧ F dd = some (.xd [(("value" : Str), v)]) ∧ Dp K F v d
end
/-- the address of what a slot owns -/
def own1 : W × Option V → Option Addr
  | (.own _, some (.ref p)) => some p
  | _ => none
structure Sim (K : PySem.W.Frag) (L : List (W × Option V)) (bd : List Addr) (bs : List Cell) (F R H : Hp) : Prop where
  fh : Ex F H
  rh : Ex R H
  fr : ∀ a o, R a = some o → F a = none
  len : bd.length = bs.length
  ok : ∀ q ∈ L, OkW K F H bd q.1 q.2
  bo : ∀ (k : Nat) (p : Addr) (c : Cell), bd[k]? = some p → bs[k]? = some c → CellOk K F H p c
  nd : (bd ++ L.filterMap own1).Nodup
  out : ∀ p ∈ bd ++ L.filterMap own1, F p = none ∧ R p = none
/-- the slots beside the temporaries -/
def sl (ws : List W) (vs : L2.St) : List (W × Option V) := ws.zip vs
structure SimS (K : PySem.W.Frag) (σ : S) (vs : L2.St) (ts : List (W × Option V)) (bd : List Addr) (F R H : Hp) : Prop where
  ln : vs.length = σ.ws.length
  sim : Sim K (sl σ.ws vs ++ ts) bd σ.bs F R H

end TR
namespace L2
open PySem PySem.Spec
open Evl (Ex)
/-! ### facts of data under extensions -/
section
variable {K : PySem.W.Frag} {F F' H H' : Hp}
theorem Dp.mono (e : Ex F F') : ∀ {v : V} {d : PyData}, Dp K F v d → Dp K F' v d := by
  intro v d h
  exact Dp.rec (motive_1 := fun v d _ => Dp K F' v d) (motive_2 := fun vs ds _ => DpAll K F' vs ds)
    .non (fun b => .bl b) (fun i => .int i) (fun x => .str x) (fun h _ ih => .lst (Evl.ex_l e h) ih) (fun h _ ih => .tup (Evl.ex_t e h) ih) .nil (fun _ _ ih1 ih2 => .cons ih1 ih2) h
theorem DpAll.mono (e : Ex F F') : ∀ {vs : List V} {ds : List PyData}, DpAll K F vs ds → DpAll K F' vs ds
  | _, _, .nil => .nil
  | _, _, .cons h t => .cons (Dp.mono e h) (DpAll.mono e t)
theorem DpAll.length : ∀ {vs : List V} {ds : List PyData}, DpAll K F vs ds → vs.length = ds.length
  | _, _, .nil => rfl
  | _, _, .cons _ t => by rw [List.length_cons, List.length_cons, DpAll.length t]
theorem DpAll.get : ∀ {vs : List V} {ds : List PyData} {i : Nat} {d : PyData}, DpAll K F vs ds → ds[i]? = some d → ∃ v, vs[i]? = some v ∧ Dp K F v d
  | _, _, 0, _, .cons h _, e => by simp at e; subst e; exact ⟨_, rfl, h⟩
  | _, _, i + 1, d, .cons _ t, e => by
    obtain ⟨v, a, b⟩ := DpAll.get (i := i) (d := d) t (by simpa using e)
    exact ⟨v, by simpa using a, b⟩
theorem DpAll.getV : ∀ {vs : List V} {ds : List PyData} {i : Nat} {v : V}, DpAll K F vs ds → vs[i]? = some v → ∃ d, ds[i]? = some d ∧ Dp K F v d
  | _, _, 0, _, .cons h _, e => by simp at e; subst e; exact ⟨_, rfl, h⟩
  | _, _, i + 1, v, .cons _ t, e => by
    obtain ⟨d, a, b⟩ := DpAll.getV (i := i) (v := v) t (by simpa using e)
    exact ⟨d, by simpa using a, b⟩
theorem DpAll.append : ∀ {vs us : List V} {ds es : List PyData}, DpAll K F vs ds → DpAll K F us es → DpAll K F (vs ++ us) (ds ++ es)
  | _, _, _, _, .nil, h => h
  | _, _, _, _, .cons a t, h => .cons a (DpAll.append t h)
theorem DpAll.dropLast : ∀ {vs : List V} {ds : List PyData}, DpAll K F vs ds → DpAll K F vs.dropLast ds.dropLast
  | _, _, .nil => .nil
  | _, _, .cons _ .nil => .nil
  | _, _, .cons a (.cons b t) => .cons a (DpAll.dropLast (.cons b t))
theorem DpAll.drop : ∀ (n : Nat) {vs : List V} {ds : List PyData}, DpAll K F vs ds → DpAll K F (vs.drop n) (ds.drop n)
  | 0, _, _, h => h
  | _ + 1, _, _, .nil => .nil
  | n + 1, _, _, .cons _ t => DpAll.drop n t
theorem DpAll.take : ∀ (n : Nat) {vs : List V} {ds : List PyData}, DpAll K F vs ds → DpAll K F (vs.take n) (ds.take n)
  | 0, _, _, _ => .nil
  | _ + 1, _, _, .nil => .nil
  | n + 1, _, _, .cons h t => .cons h (DpAll.take n t)
theorem DpAll.reverse : ∀ {vs : List V} {ds : List PyData}, DpAll K F vs ds → DpAll K F vs.reverse ds.reverse
  | _, _, .nil => .nil
  | _, _, .cons h t => by
    rw [List.reverse_cons, List.reverse_cons]
    exact DpAll.append (DpAll.reverse t) (.cons h .nil)
theorem DpAll.set : ∀ {vs : List V} {ds : List PyData} {v : V} {d : PyData} (i : Nat), DpAll K F vs ds → Dp K F v d → DpAll K F (vs.set i v) (ds.set i d)
  | _, _, _, _, _, .nil, _ => .nil
  | _, _, _, _, 0, .cons _ t, h => .cons h t
  | _, _, _, _, i + 1, .cons a t, h => .cons a (DpAll.set i t h)
theorem DpAll.ints : ∀ {vs : List V} {ns : List Int}, DpAll K F vs (ns.map .int) → vs = ns.map V.int
  | _, [], h => by cases h; rfl
  | _, n :: ns, h => by
    cases h with
    | cons a t =>
      cases a
      rw [List.map_cons, DpAll.ints t]
theorem DpAll.strs : ∀ {vs : List V} {ns : List Str}, DpAll K F vs (ns.map .str) → vs = ns.map V.str
  | _, [], h => by cases h; rfl
  | _, n :: ns, h => by
    cases h with
    | cons a t =>
      cases a
      rw [List.map_cons, DpAll.strs t]
theorem DpAll.bls : ∀ {vs : List V} {ns : List Bool}, DpAll K F vs (ns.map .bool) → vs = ns.map V.bl
  | _, [], h => by cases h; rfl
  | _, n :: ns, h => by
    cases h with
    | cons a t =>
      cases a
      rw [List.map_cons, DpAll.bls t]
theorem DpAll.of_ints : ∀ {ns : List Int}, DpAll K F (ns.map V.int) (ns.map .int)
  | [] => .nil
  | _ :: _ => .cons (.int _) DpAll.of_ints
theorem DpAll.of_strs : ∀ {ns : List Str}, DpAll K F (ns.map V.str) (ns.map .str)
  | [] => .nil
  | _ :: _ => .cons (.str _) DpAll.of_strs
theorem DpAll.of_bls : ∀ {ns : List Bool}, DpAll K F (ns.map V.bl) (ns.map .bool)
  | [] => .nil
  | _ :: _ => .cons (.bl _) DpAll.of_bls
end
end L2
namespace TR
open PySem PySem.Spec L2
open Evl (Ex)
section
variable {K : PySem.W.Frag} {F F' H H' : Hp}
theorem CellOk.mono (e : Ex F F') (e2 : Ex H H') {p : Addr} {c : Cell} (h : CellOk K F H p c) : CellOk K F' H' p c := by
  cases c with
  | lst ds =>
    obtain ⟨xs, a, b⟩ := h
    exact ⟨xs, e2 _ _ a, b.mono e⟩
theorem CellOk.cong (e : Ex F F') {p : Addr} {c : Cell} (h : CellOk K F H p c) (e2 : H' p = H p) : CellOk K F' H' p c := by
  cases c with
  | lst ds =>
    obtain ⟨xs, a, b⟩ := h
    exact ⟨xs, e2.trans a, b.mono e⟩
theorem OkW.cong {bd : List Addr} {w : W} {o : Option V} (e : Ex F F') (h : OkW K F H bd w o) (e2 : ∀ p, own1 (w, o) = some p → H' p = H p) : OkW K F' H' bd w o := by
  cases w with
  | un => trivial
  | dat d =>
    obtain ⟨v, a, b⟩ := h
    exact ⟨v, a, b.mono e⟩
  | own c =>
    obtain ⟨p, a, b⟩ := h
    subst a
    exact ⟨p, rfl, b.cong e (e2 p rfl)⟩
  | bor k => exact h
  | exc C d =>
    obtain ⟨a, dd, v, h1, h2, h3, h4⟩ := h
    exact ⟨a, dd, v, h1, e _ _ h2, e _ _ h3, h4.mono e⟩
theorem OkW.mono {bd : List Addr} {w : W} {o : Option V} (e : Ex F F') (e2 : Ex H H') (h : OkW K F H bd w o) : OkW K F' H' bd w o := by
  cases w with
  | un => trivial
  | dat d =>
    obtain ⟨v, a, b⟩ := h
    exact ⟨v, a, b.mono e⟩
  | own c =>
    obtain ⟨p, a, b⟩ := h
    exact ⟨p, a, b.mono e e2⟩
  | bor k => exact h
  | exc C d =>
    obtain ⟨a, dd, v, h1, h2, h3, h4⟩ := h
    exact ⟨a, dd, v, h1, e _ _ h2, e _ _ h3, h4.mono e⟩
end

/-! ### the relation of state and heap -/
section
variable {K : PySem.W.Frag} {L : List (W × Option V)} {bd : List Addr} {bs : List Cell} {F F' R H H' : Hp}
theorem Sim.hp {p : Addr} {c : Cell} (h : CellOk K F H p c) : ∃ o, H p = some o := by
  cases c with
  | lst ds => exact ⟨_, h.choose_spec.1⟩
/-- fewer entries -/
theorem Sim.sub {L' : List (W × Option V)} (s : Sim K L bd bs F R H) (h : List.Sublist L' L) : Sim K L' bd bs F R H :=
  ⟨s.fh, s.rh, s.fr, s.len, fun q hq => s.ok q (h.mem hq), s.bo, (List.Sublist.append (List.Sublist.refl _) (h.filterMap _)).nodup s.nd, fun p hp => s.out p ((List.Sublist.append (List.Sublist.refl _) (h.filterMap _)).mem hp)⟩
theorem Sim.pop {q : W × Option V} (s : Sim K (q :: L) bd bs F R H) : Sim K L bd bs F R H := s.sub (List.sublist_cons_self _ _)
/-- an entry that owns nothing comes in -/
theorem Sim.push {w : W} {o : Option V} (s : Sim K L bd bs F R H) (hn : own1 (w, o) = none) (h : OkW K F H bd w o) : Sim K ((w, o) :: L) bd bs F R H := by
  have e : ((w, o) :: L).filterMap own1 = L.filterMap own1 := by rw [List.filterMap_cons, hn]
  refine ⟨s.fh, s.rh, s.fr, s.len, fun q hq => ?_, s.bo, by rw [e]; exact s.nd, fun p hp => s.out p (by rw [e] at hp; exact hp)⟩
  rcases List.mem_cons.mp hq with rfl | hq
  · exact h
  · exact s.ok q hq
theorem own_dat {d : PyData} {o : Option V} : own1 (.dat d, o) = none := by cases o <;> rfl
theorem own_un {o : Option V} : own1 (.un, o) = none := by cases o <;> rfl
theorem own_exc {C : Str} {d : PyData} {o : Option V} : own1 (.exc C d, o) = none := by cases o <;> rfl
theorem own_bor {k : Nat} {o : Option V} : own1 (.bor k, o) = none := by cases o <;> rfl
theorem Sim.pushD {d : PyData} {v : V} (s : Sim K L bd bs F R H) (h : Dp K F v d) : Sim K ((.dat d, some v) :: L) bd bs F R H := s.push own_dat ⟨v, rfl, h⟩
/-- a new object, not ours -/
theorem Sim.more {p : Addr} {o : HO} (s : Sim K L bd bs F R H) (hp : H p = none) : Sim K L bd bs F R (upd H p o) :=
  ⟨s.fh.trans (Ex.new hp), s.rh.trans (Ex.new hp), s.fr, s.len, fun q hq => (s.ok q hq).mono (Ex.refl _) (Ex.new hp), fun k p c a b => (s.bo k p c a b).mono (Ex.refl _) (Ex.new hp), s.nd, s.out⟩
theorem Sim.freshF {p : Addr} (s : Sim K L bd bs F R H) (hp : H p = none) : F p = none := by
  cases e : F p with
  | none => rfl
  | some o => have := s.fh p o e; rw [hp] at this; cases this
theorem Sim.freshR {p : Addr} (s : Sim K L bd bs F R H) (hp : H p = none) : R p = none := by
  cases e : R p with
  | none => rfl
  | some o => have := s.rh p o e; rw [hp] at this; cases this
theorem Sim.ownHp {p : Addr} (s : Sim K L bd bs F R H) (h : p ∈ bd ++ L.filterMap own1) : ∃ o, H p = some o := by
  rcases List.mem_append.mp h with h | h
  · obtain ⟨k, hk⟩ := List.getElem?_of_mem h
    have hl : k < bs.length := by rw [← s.len]; exact (List.getElem?_eq_some_iff.mp hk).1
    exact Sim.hp (s.bo k p bs[k] hk (List.getElem?_eq_getElem hl))
  · obtain ⟨q, hq, e⟩ := List.mem_filterMap.mp h
    have ok := s.ok q hq
    obtain ⟨w, o⟩ := q
    cases w with
    | own c =>
      obtain ⟨p', rfl, hc⟩ := ok
      cases e
      exact Sim.hp hc
    | _ => cases o <;> cases e
theorem Sim.fresh {p : Addr} (s : Sim K L bd bs F R H) (hp : H p = none) : p ∉ bd ++ L.filterMap own1 := fun h => by
  obtain ⟨o, e⟩ := s.ownHp h
  rw [hp] at e; cases e
/-- a new object becomes frozen data's -/
theorem Sim.lay {p : Addr} {o : HO} (s : Sim K L bd bs F R H) (hp : H p = none) : Sim K L bd bs (upd F p o) R (upd H p o) := by
  have fp := s.freshF hp
  have rp := s.freshR hp
  refine ⟨fun a u e => ?_, s.rh.trans (Ex.new hp), fun a u e => ?_, s.len, fun q hq => (s.ok q hq).mono (Ex.new fp) (Ex.new hp), fun k q c a b => (s.bo k q c a b).mono (Ex.new fp) (Ex.new hp), s.nd, fun q hq => ?_⟩
  · by_cases h : a = p
    · subst h; rw [upd_same] at e ⊢; exact e
    · rw [upd_ne h] at e ⊢; exact s.fh a u e
  · have h : a ≠ p := fun h => by subst h; rw [rp] at e; cases e
    rw [upd_ne h]; exact s.fr a u e
  · have h : q ≠ p := fun h => by subst h; exact s.fresh hp hq
    rw [upd_ne h]; exact s.out q hq
/-- a new object becomes an owned cell -/
theorem Sim.newOwn {p : Addr} {xs : List V} {ds : List PyData} (s : Sim K L bd bs F R H) (hp : H p = none) (h : DpAll K F xs ds) : Sim K ((.own (.lst ds), some (.ref p)) :: L) bd bs F R (upd H p (.lst xs)) := by
  have s2 : Sim K L bd bs F R (upd H p (.lst xs)) := s.more hp
  have fr := s.fresh hp
  have e : ((W.own (.lst ds), some (V.ref p)) :: L).filterMap own1 = p :: L.filterMap own1 := rfl
  refine ⟨s2.fh, s2.rh, s2.fr, s2.len, fun q hq => ?_, s2.bo, ?_, fun q hq => ?_⟩
  · rcases List.mem_cons.mp hq with rfl | hq
    · exact ⟨p, rfl, xs, upd_same, h⟩
    · exact s2.ok q hq
  · rw [e]
    rw [List.nodup_append] at *
    have nd := List.nodup_append.mp s.nd
    refine ⟨nd.1, List.nodup_cons.mpr ⟨fun h => fr (List.mem_append_right _ h), nd.2.1⟩, fun a ha b hb => ?_⟩
    rcases List.mem_cons.mp hb with rfl | hb
    · rintro rfl
      exact fr (List.mem_append_left _ ha)
    · exact nd.2.2 a ha b hb
  · rw [e] at hq
    rcases List.mem_append.mp hq with hq | hq
    · exact s.out q (List.mem_append_left _ hq)
    · rcases List.mem_cons.mp hq with rfl | hq
      · exact ⟨s.freshF hp, s.freshR hp⟩
      · exact s.out q (List.mem_append_right _ hq)
/-- an owned list becomes frozen -/
theorem Sim.freeze {p : Addr} {ds : List PyData} (s : Sim K ((.own (.lst ds), some (.ref p)) :: L) bd bs F R H) : ∃ F', Ex F F' ∧ Sim K ((.dat (.list ds), some (.ref p)) :: L) bd bs F' R H := by
  obtain ⟨p', e, xs, hx, hd⟩ := s.ok _ List.mem_cons_self
  cases e
  have e : ((W.own (.lst ds), some (V.ref p)) :: L).filterMap own1 = p :: L.filterMap own1 := rfl
  have e' : ((W.dat (.list ds), some (V.ref p)) :: L).filterMap own1 = L.filterMap own1 := rfl
  obtain ⟨fp, rp⟩ := s.out p (by rw [e]; exact List.mem_append_right _ List.mem_cons_self)
  have nd0 := s.nd
  rw [e] at nd0
  have nd := List.nodup_append.mp nd0
  have ne : ∀ q ∈ bd ++ L.filterMap own1, q ≠ p := fun q hq h => by
    subst h
    rcases List.mem_append.mp hq with h | h
    · exact nd.2.2 q h q List.mem_cons_self rfl
    · exact (List.nodup_cons.mp nd.2.1).1 h
  have ex : Ex F (upd F p (.lst xs)) := Ex.new fp
  refine ⟨upd F p (.lst xs), ex, fun a u z => ?_, s.rh, fun a u z => ?_, s.len, fun q hq => ?_, fun k q c a b => (s.bo k q c a b).mono ex (Ex.refl _), ?_, fun q hq => ?_⟩
  · by_cases h : a = p
    · subst h; rw [upd_same] at z; cases z; exact hx
    · rw [upd_ne h] at z; exact s.fh a u z
  · have h : a ≠ p := fun h => by subst h; rw [rp] at z; cases z
    rw [upd_ne h]; exact s.fr a u z
  · rcases List.mem_cons.mp hq with rfl | hq
    · exact ⟨.ref p, rfl, .lst (Evl.sq_of upd_same) (hd.mono ex)⟩
    · exact (s.ok q (List.mem_cons_of_mem _ hq)).mono ex (Ex.refl _)
  · rw [e', List.nodup_append]
    exact ⟨nd.1, (List.nodup_cons.mp nd.2.1).2, fun a ha b hb => nd.2.2 a ha b (List.mem_cons_of_mem _ hb)⟩
  · rw [e'] at hq
    rw [upd_ne (ne q hq)]
    refine s.out q ?_
    rw [e]
    rcases List.mem_append.mp hq with h | h
    · exact List.mem_append_left _ h
    · exact List.mem_append_right _ (List.mem_cons_of_mem _ h)
/-- the order of the entries doesn't matter -/
theorem Sim.perm {L' : List (W × Option V)} (s : Sim K L bd bs F R H) (h : L.Perm L') : Sim K L' bd bs F R H := by
  have hp : (bd ++ L.filterMap own1).Perm (bd ++ L'.filterMap own1) := List.Perm.append_left _ (h.filterMap _)
  exact ⟨s.fh, s.rh, s.fr, s.len, fun q hq => s.ok q (h.mem_iff.mpr hq), s.bo, hp.nodup_iff.mp s.nd, fun p hq => s.out p (hp.mem_iff.mpr hq)⟩
end
end TR

set_option Elab.async false
set_option linter.all false
set_option maxRecDepth 100000
set_option maxHeartbeats 1000000
namespace TR
open PySem PySem.Spec L2
open Evl (Ex)

/-! ### where one stands -/
structure G where
  P : Program
  w : World
  K : PySem.W.Frag
  mg : Str → Option Value
  base : Heap
structure Q where
  g : G
  N : List Str
  sc : Scope
  k : Nat
  d : Bool
  fx : Str → Bool
structure Q.In (q : Q) (X : Cx) : Prop where
  prog : X.prog = q.g.P
  w : X.w = q.g.w
  K : X.K = q.g.K
  mg : X.mg = q.g.mg
  base : X.base = q.g.base
  N : X.N = q.N
  nd : X.N.Nodup
  sc : X.env.scope = q.sc
  calm : X.calm = true
  room : Room q.k X.A
  gu : X.A.guards = some []
  fn : ∀ x, q.fx x = true → X.fn x = true
  pass : q.d = true → PassesOwn (model X.prog X.w) X.A X.env X.xe
  stk : q.d = true → X.stack = X.env :: X.outer ∧ X.env.frame = some X.env.locals
/-! ### states -/
def S.set (σ : S) (i : Nat) (w : W) : S := ⟨σ.ws.set i w, σ.bs⟩
def S.lst (σ : S) (i : Nat) : Option (List PyData) := match σ.ws[i]? with
  | some (.dat (.list ds)) => some ds
  | some (.own (.lst ds)) => some ds
  | some (.bor k) => match σ.bs[k]? with
    | some (.lst ds) => some ds
    | none => none
  | _ => none
structure SM (K : PySem.W.Frag) (σ : S) (vs : L2.St) (bd : List Addr) (F R H : Hp) : Prop where
  ln : vs.length = σ.ws.length
  sim : Sim K (σ.ws.zip vs) bd σ.bs F R H
section
variable {K : PySem.W.Frag} {σ : S} {vs : L2.St} {bd : List Addr} {F R H : Hp} {i : Nat}
theorem zip_at {α β : Type} {xs : List α} {ys : List β} {i : Nat} {x : α} {y : β} (h : xs[i]? = some x) (h' : ys[i]? = some y) : (xs.zip ys)[i]? = some (x, y) := by
  rw [List.getElem?_zip_eq_some]; exact ⟨h, h'⟩
theorem SM.at_ (s : SM K σ vs bd F R H) {w : W} (h : σ.ws[i]? = some w) : ∃ o, vs[i]? = some o ∧ (w, o) ∈ σ.ws.zip vs ∧ OkW K F H bd w o := by
  have hi : i < vs.length := by rw [s.ln]; exact (List.getElem?_eq_some_iff.mp h).1
  have e := List.getElem?_eq_getElem hi
  have m := List.mem_of_getElem? (zip_at h e)
  exact ⟨vs[i], e, m, s.sim.ok _ m⟩
theorem SM.dat (s : SM K σ vs bd F R H) {d : PyData} (h : σ.ws[i]? = some (.dat d)) : ∃ v, vs[i]? = some (some v) ∧ Dp K F v d := by
  obtain ⟨o, e, _, v, rfl, hd⟩ := s.at_ h
  exact ⟨v, e, hd⟩
theorem SM.cell (s : SM K σ vs bd F R H) {p : Addr} {c : Cell} (h : CellOk K F H p c) : ∃ ds xs, c = .lst ds ∧ H p = some (.lst xs) ∧ DpAll K F xs ds := by
  cases c with
  | lst ds => obtain ⟨xs, a, b⟩ := h; exact ⟨ds, xs, rfl, a, b⟩
theorem SM.lst_ (s : SM K σ vs bd F R H) {ds : List PyData} (h : σ.lst i = some ds) : ∃ p xs, vs[i]? = some (some (.ref p)) ∧ SqL K H p xs ∧ DpAll K F xs ds := by
  unfold S.lst at h
  cases e : σ.ws[i]? with
  | none => rw [e] at h; cases h
  | some w =>
    rw [e] at h
    cases w with
    | un => cases h
    | exc C d => cases h
    | dat d =>
      cases d with
      | list es =>
        cases h
        obtain ⟨v, e1, hd⟩ := s.dat e
        cases hd with
        | lst a b => exact ⟨_, _, e1, Evl.ex_l s.sim.fh a, b⟩
      | _ => cases h
    | own c =>
      cases c with
      | lst es =>
        cases h
        obtain ⟨o, e1, _, p, rfl, xs, a, b⟩ := s.at_ e
        exact ⟨p, xs, e1, Evl.sq_of a, b⟩
    | bor k =>
      obtain ⟨o, e1, _, p, rfl, hp⟩ := s.at_ e
      dsimp only at h
      cases e2 : σ.bs[k]? with
      | none => rw [e2] at h; cases h
      | some c =>
        rw [e2] at h
        cases c with
        | lst es =>
          cases h
          obtain ⟨xs, a, b⟩ := s.sim.bo k p _ hp e2
          exact ⟨p, xs, e1, Evl.sq_of a, b⟩
theorem zip_set {α β : Type} : ∀ {xs : List α} {ys : List β} {i : Nat} {x : α} {y : β}, (xs.set i x).zip (ys.set i y) = (xs.zip ys).set i (x, y)
  | [], ys, i, x, y => by simp
  | _ :: _, [], i, x, y => by cases i <;> simp
  | a :: xs, b :: ys, 0, x, y => by simp
  | a :: xs, b :: ys, i + 1, x, y => by simp [zip_set]
theorem set_ix {α : Type} : ∀ {L : List α} {i : Nat} {q : α}, i < L.length → (q :: L.eraseIdx i).Perm (L.set i q)
  | [], i, q, h => by simp at h
  | a :: L, 0, q, h => by simp
  | a :: L, i + 1, q, h => by
    simp only [List.eraseIdx_cons_succ, List.set_cons_succ]
    exact (List.Perm.swap a q _).trans (List.Perm.cons a (set_ix (by simpa using h)))
theorem set_perm {α : Type} {L : List α} {i : Nat} {q : α} : ∃ L', List.Sublist L' (q :: L) ∧ L'.Perm (L.set i q) := by
  by_cases hi : i < L.length
  · exact ⟨q :: L.eraseIdx i, (List.eraseIdx_sublist L i).cons₂ q, set_ix hi⟩
  · exact ⟨L, List.sublist_cons_self _ _, by rw [List.set_eq_of_length_le (by omega)]⟩
/-- a slot is stored -/
theorem SM.store {w : W} {o : Option V} (ln : vs.length = σ.ws.length) (s : Sim K ((w, o) :: σ.ws.zip vs) bd σ.bs F R H) : SM K (σ.set i w) (vs.set i o) bd F R H := by
  refine ⟨by simp [S.set, ln], ?_⟩
  show Sim K ((σ.ws.set i w).zip (vs.set i o)) bd σ.bs F R H
  rw [zip_set]
  obtain ⟨L', h1, h2⟩ := set_perm (L := σ.ws.zip vs) (i := i) (q := (w, o))
  exact (s.sub h1).perm h2
theorem perm_ix {α : Type} : ∀ {L : List α} {i : Nat} {q : α}, L[i]? = some q → L.Perm (q :: L.eraseIdx i)
  | [], i, q, h => by simp at h
  | a :: L, 0, q, h => by simp at h; subst h; simp
  | a :: L, i + 1, q, h => by
    have h' : L[i]? = some q := by simpa using h
    simp only [List.eraseIdx_cons_succ]
    exact (List.Perm.cons a (perm_ix h')).trans (List.Perm.swap q a _)
theorem set_self {α : Type} {L : List α} {i : Nat} {q : α} (h : L[i]? = some q) : L.set i q = L := by
  apply List.ext_getElem?
  intro j
  by_cases e : i = j
  · subst e
    rw [List.getElem?_set_self (List.getElem?_eq_some_iff.mp h).1, h]
  · rw [List.getElem?_set_ne e]
/-- a slot's own list becomes data -/
theorem SM.frz (s : SM K σ vs bd F R H) {ds : List PyData} (h : σ.ws[i]? = some (.own (.lst ds))) : ∃ F', Ex F F' ∧ SM K (σ.set i (.dat (.list ds))) vs bd F' R H ∧ ∃ v, vs[i]? = some (some v) ∧ Dp K F' v (.list ds) := by
  obtain ⟨o, e1, hm, p, rfl, xs, a, b⟩ := s.at_ h
  have hz : (σ.ws.zip vs)[i]? = some (W.own (.lst ds), some (V.ref p)) := zip_at h e1
  obtain ⟨F', ex, s2⟩ := (s.sim.perm (perm_ix hz)).freeze
  have hl : i < (σ.ws.zip vs).length := (List.getElem?_eq_some_iff.mp hz).1
  have s3 := s2.perm (set_ix hl)
  have ev : vs.set i (some (V.ref p)) = vs := set_self e1
  refine ⟨F', ex, ⟨by simp [S.set, s.ln], ?_⟩, .ref p, e1, ?_⟩
  · show Sim K ((σ.ws.set i (.dat (.list ds))).zip vs) bd σ.bs F' R H
    rw [← ev, zip_set]
    exact s3
  · obtain ⟨v, e, hd⟩ := s2.ok _ List.mem_cons_self
    cases e
    exact hd
end

/-! ### the judgements -/
/-- e comes to the data d -/
def EvD (q : Q) (e : Expr) (σ : S) (d : PyData) (σ' : S) : Prop :=
  ∀ X, q.In X → ∀ vs bd F R H, SM q.g.K σ vs bd F R H → ∀ Φ : VK, (∀ v F' H', Ex F F' → SM q.g.K σ' vs bd F' R H' → Dp q.g.K F' v d → Φ v H') → wE X e vs H Φ
/-- e comes to a new list of ds -/
def EvO (q : Q) (e : Expr) (σ : S) (ds : List PyData) (σ' : S) : Prop :=
  ∀ X, q.In X → ∀ vs bd F R H, SM q.g.K σ vs bd F R H → ∀ Φ : VK, (∀ p F' H', Ex F F' → vs.length = σ'.ws.length → Sim q.g.K ((.own (.lst ds), some (.ref p)) :: σ'.ws.zip vs) bd σ'.bs F' R H' → Φ (.ref p) H') → wE X e vs H Φ
/-- e comes to a list, to be read at once -/
def EvL (q : Q) (e : Expr) (σ : S) (ds : List PyData) (σ' : S) : Prop :=
  ∀ X, q.In X → ∀ vs bd F R H, SM q.g.K σ vs bd F R H → ∀ Φ : VK, (∀ p xs F' H', Ex F F' → SM q.g.K σ' vs bd F' R H' → SqL q.g.K H' p xs → DpAll q.g.K F' xs ds → Φ (.ref p) H') → wE X e vs H Φ
def EvT (q : Q) (e : Expr) (σ : S) (b : Bool) (σ' : S) : Prop :=
  ∀ X, q.In X → ∀ vs bd F R H, SM q.g.K σ vs bd F R H → ∀ Φ : Bool → Hp → Prop, (∀ F' H', Ex F F' → SM q.g.K σ' vs bd F' R H' → Φ b H') → wT X e vs H Φ
def EvA (q : Q) (es : List Expr) (σ : S) (ds : List PyData) (σ' : S) : Prop :=
  ∀ X, q.In X → ∀ vs bd F R H, SM q.g.K σ vs bd F R H → ∀ Φ : List V → Hp → Prop, (∀ us F' H', Ex F F' → SM q.g.K σ' vs bd F' R H' → DpAll q.g.K F' us ds → Φ us H') → wA X es vs H Φ
section
variable {q : Q} {e a b c : Expr} {es : List Expr} {σ σ1 σ2 σ3 σ' : S} {d d1 d2 d3 : PyData} {ds : List PyData} {pos p2 : Pos} {x : Str} {i : Nat}
theorem EvD.of_pe {t : TE} (h : ∀ X, q.In X → PE X e t) (k : ∀ X, q.In X → ∀ vs bd F R H, SM q.g.K σ vs bd F R H → ∀ Φ : VK, (∀ v F' H', Ex F F' → SM q.g.K σ' vs bd F' R H' → Dp q.g.K F' v d → Φ v H') → t vs H Φ) : EvD q e σ d σ' :=
  fun X hX vs bd F R H s Φ f => wE_of (h X hX) (k X hX vs bd F R H s Φ f)
theorem EvO.data (h : EvO q e σ ds σ') : EvD q e σ (.list ds) σ' := fun X hX vs bd F R H s Φ f => h X hX vs bd F R H s Φ fun p F' H' ex ln s1 => by
  obtain ⟨F2, ex2, s2⟩ := s1.freeze
  obtain ⟨v, e, hd⟩ := s2.ok _ List.mem_cons_self
  cases e
  exact f (.ref p) F2 H' (ex.trans ex2) ⟨ln, s2.pop⟩ hd
theorem EvD.lst (h : EvD q e σ (.list ds) σ') : EvL q e σ ds σ' := fun X hX vs bd F R H s Φ f => h X hX vs bd F R H s Φ fun v F' H' ex s1 hd => by
  cases hd with
  | lst a b => exact f _ _ F' H' ex s1 (Evl.ex_l s1.sim.fh a) b
theorem EvO.lst (h : EvO q e σ ds σ') : EvL q e σ ds σ' := fun X hX vs bd F R H s Φ f => h X hX vs bd F R H s Φ fun p F' H' ex ln s1 => by
  obtain ⟨p', e, xs, hx, hd⟩ := s1.ok _ List.mem_cons_self
  cases e
  exact f p xs F' H' ex ⟨ln, s1.pop⟩ (Evl.sq_of hx) hd

/-! ### names, constants -/
theorem ev_int {n : Int} {j} : EvD q (.Constant (.int n) j pos) σ (.int n) σ := EvD.of_pe (fun _ _ => pe_int) fun X hX vs bd F R H s Φ f => f _ F H (Ex.refl _) s (.int n)
theorem ev_bl {n : Bool} {j} : EvD q (.Constant (.bool n) j pos) σ (.bool n) σ := EvD.of_pe (fun _ _ => pe_bl) fun X hX vs bd F R H s Φ f => f _ F H (Ex.refl _) s (.bl n)
theorem ev_non {j} : EvD q (.Constant .none j pos) σ .none σ := EvD.of_pe (fun _ _ => pe_non) fun X hX vs bd F R H s Φ f => f _ F H (Ex.refl _) s .non
theorem ev_str {n : Str} {j} : EvD q (.Constant (.str n) j pos) σ (.str n) σ := EvD.of_pe (fun _ _ => pe_str) fun X hX vs bd F R H s Φ f => f _ F H (Ex.refl _) s (.str n)
/-- x stands in slot i -/
structure Sl (q : Q) (x : Str) (i : Nat) : Prop where
  ix : q.N[i]? = some x
  vis : Vis q.sc x
  nd : (x == ("__debug__" : Str)) = false
  nc : (x == ("__classdict__" : Str)) = false
theorem Sl.pe (h : Sl q x i) {X : Cx} (hX : q.In X) : PE X (.Name x pos) (tVar i) := pe_var (by rw [hX.N]; exact h.ix) (by rw [hX.sc]; exact h.vis) h.nd h.nc
theorem ev_name (h : Sl q x i) (hd : σ.ws[i]? = some (.dat d)) : EvD q (.Name x pos) σ d σ := EvD.of_pe (fun _ hX => h.pe hX) fun X hX vs bd F R H s Φ f => by
  obtain ⟨v, e, hv⟩ := s.dat hd
  exact ⟨v, e, f v F H (Ex.refl _) s hv⟩
/-- the slot's own list becomes data -/
theorem ev_nameF (h : Sl q x i) (hd : σ.ws[i]? = some (.own (.lst ds))) : EvD q (.Name x pos) σ (.list ds) (σ.set i (.dat (.list ds))) := EvD.of_pe (fun _ hX => h.pe hX) fun X hX vs bd F R H s Φ f => by
  obtain ⟨F', ex, s2, v, e, hv⟩ := s.frz hd
  exact ⟨v, e, f v F' H ex s2 hv⟩
theorem ev_nameL (h : Sl q x i) (hd : σ.lst i = some ds) : EvL q (.Name x pos) σ ds σ := fun X hX vs bd F R H s Φ f => by
  obtain ⟨p, xs, e, hs, hv⟩ := s.lst_ hd
  exact wE_of (h.pe hX) ⟨_, e, f p xs F H (Ex.refl _) s hs hv⟩
end
end TR

set_option Elab.async false
set_option linter.all false
set_option maxRecDepth 100000
set_option maxHeartbeats 1000000
namespace TR
open PySem PySem.Spec L2
open Evl (Ex)
section
variable {q : Q} {e a b c : Expr} {es : List Expr} {σ σ1 σ2 σ3 σ' : S} {d d1 d2 d3 z : PyData} {ds es' : List PyData} {pos p2 p : Pos} {x : Str} {i : Nat}
/-- x is a name of the module or of the built-ins -/
def GlQ (q : Q) (x : Str) : Prop := q.sc.names.lookup x = some .globalImplicit
theorem GlQ.gl (h : GlQ q x) {X : Cx} (hX : q.In X) : Gl X x := by
  show X.env.scope.names.lookup x = _
  rw [hX.sc]; exact h
/-- x is the built-in u -/
structure Bi (q : Q) (x : Str) (u : Value) : Prop where
  gl : GlQ q x
  mg : q.g.mg x = none
  bt : bootBuiltins x = some u
  nn : x ≠ "__name__"
  nd : (x == ("__debug__" : Str)) = false
/-- x is a constant of the module -/
structure Gc (q : Q) (x : Str) (d : PyData) : Prop where
  gl : GlQ q x
  mg : ∃ u v, q.g.mg x = some u ∧ RelV v u ∧ ∀ F, Dp q.g.K F v d
  nd : (x == ("__debug__" : Str)) = false
theorem ev_glob (h : Gc q x d) : EvD q (.Name x pos) σ d σ := fun X hX vs bd F R H s Φ f => by
  obtain ⟨u, v, hm, r, hd⟩ := h.mg
  exact wE_of (pe_glob (v := v) (u := u) (h.gl.gl hX) (by rw [hX.mg]; exact hm) r h.nd) (f v F H (Ex.refl _) s (hd F))
theorem Bi.pe {u : Value} {v : V} (h : Bi q x u) (r : RelV v u) {X : Cx} (hX : q.In X) : PE X (.Name x pos) (tC v) := pe_bltn (h.gl.gl hX) (by rw [hX.mg]; exact h.mg) h.bt r h.nn h.nd

/-! ### operators -/
theorem ev_op {op : Operator} {r : R2} (ho : ∀ X, q.In X → OpR X (binaryOp op) r) (ha : EvD q a σ d1 σ1) (hb : EvD q b σ1 d2 σ2)
    (hr : ∀ vs bd F R H u v, SM q.g.K σ2 vs bd F R H → Dp q.g.K F u d1 → Dp q.g.K F v d2 → ∀ Φ : VK, (∀ w F' H', Ex F F' → SM q.g.K σ2 vs bd F' R H' → Dp q.g.K F' w z → Φ w H') → r u v H Φ) :
    EvD q (.BinOp a op b pos) σ z σ2 := fun X hX vs bd F R H s Φ f => wE_of (pe_op (ho X hX) (pE a) (pE b))
  (ha X hX vs bd F R H s _ fun u F1 H1 e1 s1 h1 => hb X hX vs bd F1 R H1 s1 _ fun v F2 H2 e2 s2 h2 => hr vs bd F2 R H2 u v s2 (h1.mono e2) h2 _ fun w F3 H3 e3 => f w F3 H3 ((e1.trans e2).trans e3))
theorem ev_opV {op : Operator} {r : R2} (ho : ∀ X, q.In X → OpR X (binaryOp op) r) (ha : EvD q a σ d1 σ1) (hb : EvD q b σ1 d2 σ2) {w : V}
    (hr : ∀ F H u v, Ex F H → Dp q.g.K F u d1 → Dp q.g.K F v d2 → ∀ Φ : VK, Φ w H → r u v H Φ) (hw : ∀ F, Dp q.g.K F w z) :
    EvD q (.BinOp a op b pos) σ z σ2 := ev_op ho ha hb fun vs bd F R H u v s h1 h2 Φ f => hr F H u v s.sim.fh h1 h2 Φ (f w F H (Ex.refl _) s (hw F))
theorem ev_add {i j : Int} (ha : EvD q a σ (.int i) σ1) (hb : EvD q b σ1 (.int j) σ2) : EvD q (.BinOp a .Add b pos) σ (.int (i + j)) σ2 :=
  ev_opV (fun _ _ => op_add) ha hb (fun F H u v _ h1 h2 Φ f => by cases h1; cases h2; exact ⟨i, j, rfl, rfl, f⟩) fun F => .int _
theorem ev_sub {i j : Int} (ha : EvD q a σ (.int i) σ1) (hb : EvD q b σ1 (.int j) σ2) : EvD q (.BinOp a .Sub b pos) σ (.int (i - j)) σ2 :=
  ev_opV (fun _ _ => op_sub) ha hb (fun F H u v _ h1 h2 Φ f => by cases h1; cases h2; exact ⟨i, j, rfl, rfl, f⟩) fun F => .int _
theorem ev_mul {i j : Int} (ha : EvD q a σ (.int i) σ1) (hb : EvD q b σ1 (.int j) σ2) (hc : CMul i j) : EvD q (.BinOp a .Mult b pos) σ (.int (i * j)) σ2 :=
  ev_opV (fun _ _ => op_mul) ha hb (fun F H u v _ h1 h2 Φ f => by cases h1; cases h2; exact ⟨i, j, rfl, rfl, hc, f⟩) fun F => .int _
theorem ev_mulW {i j : Int} (ha : EvD q a σ (.int i) σ1) (hb : EvD q b σ1 (.int j) σ2) (hc : CMulW i j) : EvD q (.BinOp a .Mult b pos) σ (.int (i * j)) σ2 :=
  ev_opV (fun _ _ => op_mulW) ha hb (fun F H u v _ h1 h2 Φ f => by cases h1; cases h2; exact ⟨i, j, rfl, rfl, hc, f⟩) fun F => .int _
theorem ev_mod {i j : Int} (ha : EvD q a σ (.int i) σ1) (hb : EvD q b σ1 (.int j) σ2) (hc : 0 < j) : EvD q (.BinOp a .Mod b pos) σ (.int (i % j)) σ2 :=
  ev_opV (fun _ _ => op_mod) ha hb (fun F H u v _ h1 h2 Φ f => by cases h1; cases h2; exact ⟨i, j, rfl, rfl, hc, f⟩) fun F => .int _
theorem ev_fdiv {i j : Int} (ha : EvD q a σ (.int i) σ1) (hb : EvD q b σ1 (.int j) σ2) (hc : CDiv i j) : EvD q (.BinOp a .FloorDiv b pos) σ (.int (i / j)) σ2 :=
  ev_opV (fun _ _ => op_fdiv) ha hb (fun F H u v _ h1 h2 Φ f => by cases h1; cases h2; exact ⟨i, j, rfl, rfl, hc, f⟩) fun F => .int _
theorem ev_pow {i j : Int} (ha : EvD q a σ (.int i) σ1) (hb : EvD q b σ1 (.int j) σ2) (hc : CPow i j) : EvD q (.BinOp a .Pow b pos) σ (.int (i ^ j.toNat)) σ2 :=
  ev_opV (fun _ _ => op_pow) ha hb (fun F H u v _ h1 h2 Φ f => by cases h1; cases h2; exact ⟨i, j, rfl, rfl, hc, f⟩) fun F => .int _
theorem ev_addS {x y : Str} (ha : EvD q a σ (.str x) σ1) (hb : EvD q b σ1 (.str y) σ2) (hc : x.length + y.length ≤ sizeLine) : EvD q (.BinOp a .Add b pos) σ (.str (x ++ y)) σ2 :=
  ev_opV (fun _ _ => op_add_str) ha hb (fun F H u v _ h1 h2 Φ f => by cases h1; cases h2; exact ⟨x, y, rfl, rfl, hc, f⟩) fun F => .str _
theorem ev_neg {i : Int} (ha : EvD q a σ (.int i) σ1) : EvD q (.UnaryOp .USub a pos) σ (.int (-i)) σ1 := fun X hX vs bd F R H s Φ f =>
  wE_of (pe_un un_neg (pE a)) (ha X hX vs bd F R H s _ fun u F1 H1 e1 s1 h1 => by cases h1; exact ⟨i, rfl, f _ F1 H1 e1 s1 (.int _)⟩)

/-! ### comparisons, as values and as tests -/
/-- e is a comparison that comes to k -/
structure EvC (q : Q) (op : CmpOp) (a b : Expr) (σ : S) (k : Bool) (σ' : S) : Prop where
  run : ∀ X, q.In X → ∃ r : R2, OpR X (compareOp op) r ∧ behindInMarks op b = false ∧ ∀ vs bd F R H, SM q.g.K σ vs bd F R H → ∀ Φ : VK, (∀ F' H', Ex F F' → SM q.g.K σ' vs bd F' R H' → Φ (.bl k) H') → tOp r (wE X a) (wE X b) vs H Φ
theorem EvC.v {op : CmpOp} {k : Bool} (h : EvC q op a b σ k σ') : EvD q (.Compare a [op] [b] pos) σ (.bool k) σ' := fun X hX vs bd F R H s Φ f => by
  obtain ⟨r, ho, hm, k⟩ := h.run X hX
  exact wE_of (pe_cmpR ho (pE a) (pE b) hm) (k vs bd F R H s Φ fun F' H' ex s' => f _ F' H' ex s' (.bl _))
theorem EvC.t {op : CmpOp} {k : Bool} (h : EvC q op a b σ k σ') : EvT q (.Compare a [op] [b] pos) σ k σ' := fun X hX vs bd F R H s Φ f => by
  obtain ⟨r, ho, hm, w⟩ := h.run X hX
  exact wT_of (pt_cmpR ho (pE a) (pE b) hm) (w vs bd F R H s _ fun F' H' ex s' => ⟨k, rfl, f F' H' ex s'⟩)
theorem EvC.mk' {op : CmpOp} {k : Bool} {r : R2} (ho : ∀ X, q.In X → OpR X (compareOp op) r) (ha : EvD q a σ d1 σ1) (hb : EvD q b σ1 d2 σ2)
    (hr : ∀ F H u v, Ex F H → Dp q.g.K F u d1 → Dp q.g.K F v d2 → ∀ Φ : VK, Φ (.bl k) H → r u v H Φ) (hm : behindInMarks op b = false) : EvC q op a b σ k σ2 :=
  ⟨fun X hX => ⟨r, ho X hX, hm, fun vs bd F R H s Φ f => ha X hX vs bd F R H s _ fun u F1 H1 e1 s1 h1 => hb X hX vs bd F1 R H1 s1 _ fun v F2 H2 e2 s2 h2 => hr F2 H2 u v s2.sim.fh (h1.mono e2) h2 Φ (f F2 H2 (e1.trans e2) s2)⟩⟩
theorem ec_lt {i j : Int} (ha : EvD q a σ (.int i) σ1) (hb : EvD q b σ1 (.int j) σ2) : EvC q .Lt a b σ (decide (i < j)) σ2 :=
  .mk' (fun _ _ => op_lt) ha hb (fun F H u v _ h1 h2 Φ f => by cases h1; cases h2; exact ⟨i, j, rfl, rfl, f⟩) (nobehind _ (by decide) (by decide))
theorem ec_le {i j : Int} (ha : EvD q a σ (.int i) σ1) (hb : EvD q b σ1 (.int j) σ2) : EvC q .LtE a b σ (decide (i ≤ j)) σ2 :=
  .mk' (fun _ _ => op_le) ha hb (fun F H u v _ h1 h2 Φ f => by cases h1; cases h2; exact ⟨i, j, rfl, rfl, f⟩) (nobehind _ (by decide) (by decide))
theorem ec_gt {i j : Int} (ha : EvD q a σ (.int i) σ1) (hb : EvD q b σ1 (.int j) σ2) : EvC q .Gt a b σ (decide (j < i)) σ2 :=
  .mk' (fun _ _ => op_gt) ha hb (fun F H u v _ h1 h2 Φ f => by cases h1; cases h2; exact ⟨i, j, rfl, rfl, f⟩) (nobehind _ (by decide) (by decide))
theorem ec_ge {i j : Int} (ha : EvD q a σ (.int i) σ1) (hb : EvD q b σ1 (.int j) σ2) : EvC q .GtE a b σ (decide (j ≤ i)) σ2 :=
  .mk' (fun _ _ => op_ge) ha hb (fun F H u v _ h1 h2 Φ f => by cases h1; cases h2; exact ⟨i, j, rfl, rfl, f⟩) (nobehind _ (by decide) (by decide))
theorem hu64 {X : Cx} (hX : q.In X) : X.A.units + 64 < cLine := by have := hX.room.un; omega
/-- == of any data -/
theorem ec_eq (ha : EvD q a σ d1 σ1) (hb : EvD q b σ1 d2 σ2) (h1 : SeqAt.shaped d1 = true) (h2 : SeqAt.shaped d2 = true) : EvC q .Eq a b σ (PyData.eqv d1 d2) σ2 :=
  .mk' (r := rEqD q.g.K) (fun X hX => by rw [← hX.K]; exact op_eqD (hu64 hX)) ha hb (fun F H u v e z1 z2 Φ f => ⟨d1, d2, z1.mono e, z2.mono e, h1, h2, f⟩) (nobehind _ (by decide) (by decide))
theorem ec_ne (ha : EvD q a σ d1 σ1) (hb : EvD q b σ1 d2 σ2) (h1 : SeqAt.shaped d1 = true) (h2 : SeqAt.shaped d2 = true) : EvC q .NotEq a b σ (!PyData.eqv d1 d2) σ2 :=
  .mk' (r := rNeD q.g.K) (fun X hX => by rw [← hX.K]; exact op_neD (hu64 hX)) ha hb (fun F H u v e z1 z2 Φ f => ⟨d1, d2, z1.mono e, z2.mono e, h1, h2, f⟩) (nobehind _ (by decide) (by decide))
/-- == of ints, bools, texts, None -/
def scalD : PyData → Option V
  | .none => some .non
  | .bool b => some (.bl b)
  | .int i => some (.int i)
  | .str x => some (.str x)
  | _ => none
theorem scalD_dp {K : PySem.W.Frag} {F : Hp} {d : PyData} {u v : V} (h : scalD d = some v) (hd : Dp K F u d) : u = v := by
  cases hd <;> cases h <;> rfl
theorem ec_eqS {u v : V} (ha : EvD q a σ d1 σ1) (hb : EvD q b σ1 d2 σ2) (h1 : scalD d1 = some u) (h2 : scalD d2 = some v) (hs : scal u v = true) : EvC q .Eq a b σ (decide (u = v)) σ2 :=
  .mk' (fun _ _ => op_eq) ha hb (fun F H u' v' _ z1 z2 Φ f => by rw [scalD_dp h1 z1, scalD_dp h2 z2]; exact ⟨hs, f⟩) (nobehind _ (by decide) (by decide))
theorem ec_neS {u v : V} (ha : EvD q a σ d1 σ1) (hb : EvD q b σ1 d2 σ2) (h1 : scalD d1 = some u) (h2 : scalD d2 = some v) (hs : scal u v = true) : EvC q .NotEq a b σ (!decide (u = v)) σ2 :=
  .mk' (fun _ _ => op_ne) ha hb (fun F H u' v' _ z1 z2 Φ f => by rw [scalD_dp h1 z1, scalD_dp h2 z2]; exact ⟨hs, f⟩) (nobehind _ (by decide) (by decide))
theorem ec_eqI {i j : Int} (ha : EvD q a σ (.int i) σ1) (hb : EvD q b σ1 (.int j) σ2) : EvC q .Eq a b σ (decide (i = j)) σ2 := by
  have h := ec_eqS ha hb rfl rfl rfl
  have e : decide (V.int i = V.int j) = decide (i = j) := by simp
  rwa [e] at h
theorem ec_neI {i j : Int} (ha : EvD q a σ (.int i) σ1) (hb : EvD q b σ1 (.int j) σ2) : EvC q .NotEq a b σ (!decide (i = j)) σ2 := by
  have h := ec_neS ha hb rfl rfl rfl
  have e : decide (V.int i = V.int j) = decide (i = j) := by simp
  rwa [e] at h
theorem ec_eqX {x y : Str} (ha : EvD q a σ (.str x) σ1) (hb : EvD q b σ1 (.str y) σ2) : EvC q .Eq a b σ (decide (x = y)) σ2 := by
  have h := ec_eqS ha hb rfl rfl rfl
  have e : decide (V.str x = V.str y) = decide (x = y) := by simp
  rwa [e] at h
theorem ec_neX {x y : Str} (ha : EvD q a σ (.str x) σ1) (hb : EvD q b σ1 (.str y) σ2) : EvC q .NotEq a b σ (!decide (x = y)) σ2 := by
  have h := ec_neS ha hb rfl rfl rfl
  have e : decide (V.str x = V.str y) = decide (x = y) := by simp
  rwa [e] at h
theorem ec_eqB {x y : Bool} (ha : EvD q a σ (.bool x) σ1) (hb : EvD q b σ1 (.bool y) σ2) : EvC q .Eq a b σ (decide (x = y)) σ2 := by
  have h := ec_eqS ha hb rfl rfl rfl
  have e : decide (V.bl x = V.bl y) = decide (x = y) := by simp
  rwa [e] at h
theorem ec_neB {x y : Bool} (ha : EvD q a σ (.bool x) σ1) (hb : EvD q b σ1 (.bool y) σ2) : EvC q .NotEq a b σ (!decide (x = y)) σ2 := by
  have h := ec_neS ha hb rfl rfl rfl
  have e : decide (V.bl x = V.bl y) = decide (x = y) := by simp
  rwa [e] at h
/-- is None -/
def isNonD : PyData → Bool
  | .none => true
  | _ => false
theorem isNonD_dp {K : PySem.W.Frag} {F : Hp} {d : PyData} {u : V} (hd : Dp K F u d) : decide (u = .non) = isNonD d := by
  cases hd <;> rfl
theorem ec_is (ha : EvD q a σ d1 σ1) (hb : EvD q b σ1 .none σ2) (hm : behindInMarks .Is b = false := by rfl) : EvC q .Is a b σ (isNonD d1) σ2 :=
  .mk' (fun _ _ => op_isN) ha hb (fun F H u v _ z1 z2 Φ f => by cases z2; exact ⟨rfl, by rw [isNonD_dp z1]; exact f⟩) hm
theorem ec_isnot (ha : EvD q a σ d1 σ1) (hb : EvD q b σ1 .none σ2) (hm : behindInMarks .IsNot b = false := by rfl) : EvC q .IsNot a b σ (!isNonD d1) σ2 :=
  .mk' (fun _ _ => op_notN) ha hb (fun F H u v _ z1 z2 Φ f => by cases z2; exact ⟨rfl, by rw [isNonD_dp z1]; exact f⟩) hm
/-- a sign in a text -/
theorem ec_inS {c : Nat} {y : Str} (ha : EvD q a σ (.str ⟨#[c]⟩) σ1) (hb : EvD q b σ1 (.str y) σ2) (hm : behindInMarks .In b = false) : EvC q .In a b σ (decide (c ∈ y.cps.toList)) σ2 :=
  .mk' (fun _ _ => op_in_sign) ha hb (fun F H u v _ z1 z2 Φ f => by cases z1; cases z2; exact ⟨c, y, rfl, rfl, f⟩) hm
theorem ec_ninS {c : Nat} {y : Str} (ha : EvD q a σ (.str ⟨#[c]⟩) σ1) (hb : EvD q b σ1 (.str y) σ2) (hm : behindInMarks .NotIn b = false) : EvC q .NotIn a b σ (!decide (c ∈ y.cps.toList)) σ2 :=
  .mk' (fun _ _ => op_notIn_sign) ha hb (fun F H u v _ z1 z2 Φ f => by cases z1; cases z2; exact ⟨c, y, rfl, rfl, f⟩) hm
/-- low <= x <= high -/
theorem ev_chain {op op' : CmpOp} {r r' : R2} {k k' : Bool} (ho : ∀ X, q.In X → OpR X (compareOp op) r) (ho' : ∀ X, q.In X → OpR X (compareOp op') r') (ha : EvD q a σ d1 σ1) (hb : EvD q b σ1 d2 σ2) (hc : k = true → EvD q c σ2 d3 σ3) (hk : k = false → σ3 = σ2)
    (hr : ∀ F H u v, Ex F H → Dp q.g.K F u d1 → Dp q.g.K F v d2 → ∀ Φ : VK, Φ (.bl k) H → r u v H Φ) (hr' : ∀ F H u v, Ex F H → Dp q.g.K F u d2 → Dp q.g.K F v d3 → ∀ Φ : VK, Φ (.bl k') H → r' u v H Φ)
    (hm : lastMarks [op, op'] [b, c] = false) : EvD q (.Compare a [op, op'] [b, c] pos) σ (.bool (k && k')) σ3 := fun X hX vs bd F R H s Φ f =>
  wE_of (pe_chain (ho X hX) (ho' X hX) (pE a) (pE b) (pE c) hm) (ha X hX vs bd F R H s _ fun u F1 H1 e1 s1 h1 => hb X hX vs bd F1 R H1 s1 _ fun v F2 H2 e2 s2 h2 => hr F2 H2 u v s2.sim.fh (h1.mono e2) h2 _ ⟨k, rfl, by
    cases k with
    | true =>
      rw [if_pos rfl]
      exact hc rfl X hX vs bd F2 R H2 s2 _ fun w F3 H3 e3 s3 h3 => hr' F3 H3 v w s3.sim.fh (h2.mono e3) h3 _ (f _ F3 H3 ((e1.trans e2).trans e3) s3 (.bl _))
    | false =>
      rw [if_neg (by decide)]
      rw [hk rfl] at f
      exact f _ F2 H2 (e1.trans e2) s2 (.bl _)⟩)
theorem ev_lele {i j k : Int} (ha : EvD q a σ (.int i) σ1) (hb : EvD q b σ1 (.int j) σ1) (hc : EvD q c σ1 (.int k) σ1) (hm : lastMarks [.LtE, .LtE] [b, c] = false := by rfl) : EvD q (.Compare a [.LtE, .LtE] [b, c] pos) σ (.bool (decide (i ≤ j) && decide (j ≤ k))) σ1 :=
  ev_chain (fun _ _ => op_le) (fun _ _ => op_le) ha hb (fun _ => hc) (fun _ => rfl) (fun F H u v _ h1 h2 Φ f => by cases h1; cases h2; exact ⟨i, j, rfl, rfl, f⟩) (fun F H u v _ h1 h2 Φ f => by cases h1; cases h2; exact ⟨j, k, rfl, rfl, f⟩) hm
theorem ev_lelt {i j k : Int} (ha : EvD q a σ (.int i) σ1) (hb : EvD q b σ1 (.int j) σ1) (hc : EvD q c σ1 (.int k) σ1) (hm : lastMarks [.LtE, .Lt] [b, c] = false := by rfl) : EvD q (.Compare a [.LtE, .Lt] [b, c] pos) σ (.bool (decide (i ≤ j) && decide (j < k))) σ1 :=
  ev_chain (fun _ _ => op_le) (fun _ _ => op_lt) ha hb (fun _ => hc) (fun _ => rfl) (fun F H u v _ h1 h2 Φ f => by cases h1; cases h2; exact ⟨i, j, rfl, rfl, f⟩) (fun F H u v _ h1 h2 Φ f => by cases h1; cases h2; exact ⟨j, k, rfl, rfl, f⟩) hm

/-! ### truth -/
/-- e's value is a bool, and its test is its value (all but and, or, not, comparisons, ifs) -/
theorem EvD.t {k : Bool} (h : EvD q e σ (.bool k) σ') (he : ∀ env whole, isTrue e env whole = (do let v ← whole; standAt e.pos; holding [v] (truthy v)) := by intro _ _; rfl) : EvT q e σ k σ' := fun X hX vs bd F R H s Φ f =>
  wT_of (pt_val (pE e) fun w => he _ w) (h X hX vs bd F R H s _ fun v F' H' ex s' hd => by cases hd; exact ⟨k, rfl, f F' H' ex s'⟩)
theorem et_not {k : Bool} (h : EvT q a σ k σ') : EvT q (.UnaryOp .Not a pos) σ (!k) σ' := fun X hX vs bd F R H s Φ f => wT_of (pt_not (pT a)) (h X hX vs bd F R H s _ fun F' H' ex s' => f F' H' ex s')
theorem ev_not {k : Bool} (h : EvD q a σ (.bool k) σ') : EvD q (.UnaryOp .Not a pos) σ (.bool (!k)) σ' := fun X hX vs bd F R H s Φ f => wE_of (pe_not (pE a)) (h X hX vs bd F R H s _ fun v F' H' ex s' hd => by cases hd; exact ⟨k, rfl, f _ F' H' ex s' (.bl _)⟩)
/-- a row of tests under and, or -/
structure EvW (q : Q) (e : Expr) (σ : S) (b : Bool) (σ' : S) : Prop where
  run : ∀ X, q.In X → ∃ t : TT, PW X e t ∧ ∀ vs bd F R H, SM q.g.K σ vs bd F R H → ∀ Φ : Bool → Hp → Prop, (∀ F' H', Ex F F' → SM q.g.K σ' vs bd F' R H' → Φ b H') → t vs H Φ
theorem EvW.t {k : Bool} (h : EvW q e σ k σ') : EvT q e σ k σ' := fun X hX vs bd F R H s Φ f => by
  obtain ⟨t, ht, w⟩ := h.run X hX
  exact wT_of ht.pt (w vs bd F R H s Φ f)
theorem ew_and1 {k : Bool} (h : EvT q a σ k σ') : EvW q (.BoolOp .And [a] pos) σ k σ' := ⟨fun X hX => ⟨_, pw_and1 (pT a), fun vs bd F R H s Φ f => h X hX vs bd F R H s Φ f⟩⟩
theorem ew_or1 {k : Bool} (h : EvT q a σ k σ') : EvW q (.BoolOp .Or [a] pos) σ k σ' := ⟨fun X hX => ⟨_, pw_or1 (pT a), fun vs bd F R H s Φ f => h X hX vs bd F R H s Φ f⟩⟩
variable {rest : List Expr}
theorem ew_andF (h : EvT q a σ false σ1) (hb : ∀ X, q.In X → ∃ t, PW X (.BoolOp .And (b :: rest) pos) t) : EvW q (.BoolOp .And (a :: b :: rest) pos) σ false σ1 := ⟨fun X hX => by
  obtain ⟨t, ht⟩ := hb X hX
  exact ⟨_, pw_and (pT a) ht, fun vs bd F R H s Φ f => h X hX vs bd F R H s _ fun F' H' ex s' => f F' H' ex s'⟩⟩
theorem ew_andT {k : Bool} (h : EvT q a σ true σ1) (h2 : EvW q (.BoolOp .And (b :: rest) pos) σ1 k σ2) : EvW q (.BoolOp .And (a :: b :: rest) pos) σ k σ2 := ⟨fun X hX => by
  obtain ⟨t, ht, w⟩ := h2.run X hX
  refine ⟨_, pw_and (pT a) ht, fun vs bd F R H s Φ f => h X hX vs bd F R H s _ fun F' H' ex s' => ?_⟩
  show (if true = true then _ else _)
  rw [if_pos rfl]
  exact w vs bd F' R H' s' _ fun F2 H2 e2 s2 => f F2 H2 (ex.trans e2) s2⟩
theorem ew_orT (h : EvT q a σ true σ1) (hb : ∀ X, q.In X → ∃ t, PW X (.BoolOp .Or (b :: rest) pos) t) : EvW q (.BoolOp .Or (a :: b :: rest) pos) σ true σ1 := ⟨fun X hX => by
  obtain ⟨t, ht⟩ := hb X hX
  exact ⟨_, pw_or (pT a) ht, fun vs bd F R H s Φ f => h X hX vs bd F R H s _ fun F' H' ex s' => f F' H' ex s'⟩⟩
theorem ew_orF {k : Bool} (h : EvT q a σ false σ1) (h2 : EvW q (.BoolOp .Or (b :: rest) pos) σ1 k σ2) : EvW q (.BoolOp .Or (a :: b :: rest) pos) σ k σ2 := ⟨fun X hX => by
  obtain ⟨t, ht, w⟩ := h2.run X hX
  refine ⟨_, pw_or (pT a) ht, fun vs bd F R H s Φ f => h X hX vs bd F R H s _ fun F' H' ex s' => ?_⟩
  show (if false = true then _ else _)
  rw [if_neg (by decide)]
  exact w vs bd F' R H' s' _ fun F2 H2 e2 s2 => f F2 H2 (ex.trans e2) s2⟩
theorem pw_allAnd {X : Cx} : ∀ (es : List Expr) (a : Expr), ∃ t, PW X (.BoolOp .And (a :: es) pos) t
  | [], a => ⟨_, pw_and1 (pT a)⟩
  | b :: r, a => let ⟨_, h⟩ := pw_allAnd r b; ⟨_, pw_and (pT a) h⟩
theorem pw_allOr {X : Cx} : ∀ (es : List Expr) (a : Expr), ∃ t, PW X (.BoolOp .Or (a :: es) pos) t
  | [], a => ⟨_, pw_or1 (pT a)⟩
  | b :: r, a => let ⟨_, h⟩ := pw_allOr r b; ⟨_, pw_or (pT a) h⟩
/-- and over a state that stays -/
theorem ew_and {k k' : Bool} (h : EvT q a σ k σ) (h2 : k = true → EvW q (.BoolOp .And (b :: rest) pos) σ k' σ) : EvW q (.BoolOp .And (a :: b :: rest) pos) σ (k && k') σ := by
  cases k with
  | true => exact ew_andT h (h2 rfl)
  | false => exact ew_andF h fun X _ => pw_allAnd rest b
theorem ew_or {k k' : Bool} (h : EvT q a σ k σ) (h2 : k = false → EvW q (.BoolOp .Or (b :: rest) pos) σ k' σ) : EvW q (.BoolOp .Or (a :: b :: rest) pos) σ (k || k') σ := by
  cases k with
  | false => exact ew_orF h (h2 rfl)
  | true => exact ew_orT h fun X _ => pw_allOr rest b
/-- and, or as values (of bools) -/
theorem ev_one {op : BoolOp} (h : EvD q a σ d σ') (hp : ∀ X, q.In X → PE X (.BoolOp op [a] pos) (wE X a)) : EvD q (.BoolOp op [a] pos) σ d σ' := fun X hX vs bd F R H s Φ f => wE_of (hp X hX) (h X hX vs bd F R H s Φ f)
theorem ev_andF (h : EvD q a σ (.bool false) σ1) : EvD q (.BoolOp .And (a :: b :: rest) pos) σ (.bool false) σ1 := fun X hX vs bd F R H s Φ f =>
  wE_of (pe_and (pE a) (pE _)) (h X hX vs bd F R H s _ fun v F' H' ex s' hd => by cases hd; exact ⟨false, rfl, f _ F' H' ex s' (.bl _)⟩)
theorem ev_andT {k : Bool} (h : EvD q a σ (.bool true) σ1) (h2 : EvD q (.BoolOp .And (b :: rest) pos) σ1 (.bool k) σ2) : EvD q (.BoolOp .And (a :: b :: rest) pos) σ (.bool k) σ2 := fun X hX vs bd F R H s Φ f =>
  wE_of (pe_and (pE a) (pE _)) (h X hX vs bd F R H s _ fun v F' H' ex s' hd => by cases hd; exact ⟨true, rfl, h2 X hX vs bd F' R H' s' _ fun w F2 H2 e2 s2 h2 => f w F2 H2 (ex.trans e2) s2 h2⟩)
theorem ev_and {k k' : Bool} (h : EvD q a σ (.bool k) σ) (h2 : k = true → EvD q (.BoolOp .And (b :: rest) pos) σ (.bool k') σ) : EvD q (.BoolOp .And (a :: b :: rest) pos) σ (.bool (k && k')) σ := by
  cases k with
  | true => exact ev_andT h (h2 rfl)
  | false => exact ev_andF h
theorem ev_orT (h : EvD q a σ (.bool true) σ1) : EvD q (.BoolOp .Or (a :: b :: rest) pos) σ (.bool true) σ1 := fun X hX vs bd F R H s Φ f =>
  wE_of (pe_or (pE a) (pE _)) (h X hX vs bd F R H s _ fun v F' H' ex s' hd => by cases hd; exact ⟨true, rfl, f _ F' H' ex s' (.bl _)⟩)
theorem ev_orF {k : Bool} (h : EvD q a σ (.bool false) σ1) (h2 : EvD q (.BoolOp .Or (b :: rest) pos) σ1 (.bool k) σ2) : EvD q (.BoolOp .Or (a :: b :: rest) pos) σ (.bool k) σ2 := fun X hX vs bd F R H s Φ f =>
  wE_of (pe_or (pE a) (pE _)) (h X hX vs bd F R H s _ fun v F' H' ex s' hd => by cases hd; exact ⟨false, rfl, h2 X hX vs bd F' R H' s' _ fun w F2 H2 e2 s2 h2 => f w F2 H2 (ex.trans e2) s2 h2⟩)
theorem ev_or {k k' : Bool} (h : EvD q a σ (.bool k) σ) (h2 : k = false → EvD q (.BoolOp .Or (b :: rest) pos) σ (.bool k') σ) : EvD q (.BoolOp .Or (a :: b :: rest) pos) σ (.bool (k || k')) σ := by
  cases k with
  | false => exact ev_orF h (h2 rfl)
  | true => exact ev_orT h
theorem ev_and1 (h : EvD q a σ d σ') : EvD q (.BoolOp .And [a] pos) σ d σ' := fun X hX vs bd F R H s Φ f => wE_of (pe_one (pE a)) (h X hX vs bd F R H s Φ f)
theorem ev_or1 (h : EvD q a σ d σ') : EvD q (.BoolOp .Or [a] pos) σ d σ' := fun X hX vs bd F R H s Φ f => wE_of (pe_one (pE a)) (h X hX vs bd F R H s Φ f)
theorem ev_ifT (h : EvT q c σ true σ1) (h2 : EvD q a σ1 d σ2) : EvD q (.IfExp c a b pos) σ d σ2 := fun X hX vs bd F R H s Φ f => wE_of (pe_ifExp (pT c) (pE a) (pE b)) (h X hX vs bd F R H s _ fun F' H' ex s' => by
  show (if true = true then _ else _)
  rw [if_pos rfl]
  exact h2 X hX vs bd F' R H' s' _ fun w F2 H2 e2 s2 h2 => f w F2 H2 (ex.trans e2) s2 h2)
theorem ev_ifF (h : EvT q c σ false σ1) (h2 : EvD q b σ1 d σ2) : EvD q (.IfExp c a b pos) σ d σ2 := fun X hX vs bd F R H s Φ f => wE_of (pe_ifExp (pT c) (pE a) (pE b)) (h X hX vs bd F R H s _ fun F' H' ex s' => by
  show (if false = true then _ else _)
  rw [if_neg (by decide)]
  exact h2 X hX vs bd F' R H' s' _ fun w F2 H2 e2 s2 h2 => f w F2 H2 (ex.trans e2) s2 h2)
theorem ev_if {k : Bool} (h : EvT q c σ k σ1) (h1 : k = true → EvD q a σ1 d1 σ1) (h2 : k = false → EvD q b σ1 d2 σ1) : EvD q (.IfExp c a b pos) σ (if k = true then d1 else d2) σ1 := by
  cases k with
  | true => exact ev_ifT h (h1 rfl)
  | false => exact ev_ifF h (h2 rfl)

/-! ### displays -/
theorem ea_nil : EvA q [] σ [] σ := fun X hX vs bd F R H s Φ f => wA_of pa_nil (f [] F H (Ex.refl _) s .nil)
theorem ea_cons (h : EvD q e σ d σ1) (hr : EvA q es σ1 ds σ2) (hs : ∀ env, starEach (e :: es) env = (false, eval e env) :: starEach es env := by intro _; rfl) : EvA q (e :: es) σ (d :: ds) σ2 := fun X hX vs bd F R H s Φ f =>
  wA_of (pa_cons (pE e) (pA es) (hs _)) (h X hX vs bd F R H s _ fun v F1 H1 e1 s1 h1 => hr X hX vs bd F1 R H1 s1 _ fun us F2 H2 e2 s2 h2 => f _ F2 H2 (e1.trans e2) s2 (.cons (h1.mono e2) h2))
theorem ev_tup {x1} (h : EvA q es σ ds σ1) (hz : ds.length ≤ sizeLine) : EvD q (.Tuple es x1 pos) σ (.tuple ds) σ1 := fun X hX vs bd F R H s Φ f =>
  wE_of (pe_tup (pA es)) (h X hX vs bd F R H s _ fun us F1 H1 e1 s1 h1 => ⟨by rw [h1.length]; exact hz, fun p hp => by
    have s2 := s1.sim.lay (o := .tup us) hp
    exact f (.ref p) (upd F1 p (.tup us)) _ (e1.trans (Ex.new (s1.sim.freshF hp))) ⟨s1.ln, s2⟩ (.tup (Evl.st_of upd_same) (h1.mono (Ex.new (s1.sim.freshF hp))))⟩)
theorem eo_lst (h : EvA q es σ ds σ1) (hz : ds.length ≤ sizeLine) : EvO q (.List es pos) σ ds σ1 := fun X hX vs bd F R H s Φ f =>
  wE_of (pe_lst (pA es)) (h X hX vs bd F R H s _ fun us F1 H1 e1 s1 h1 => ⟨by rw [h1.length]; exact hz, fun p hp => f p F1 _ e1 s1.ln (s1.sim.newOwn hp h1)⟩)

/-! ### items -/
theorem atI_dp {K : PySem.W.Frag} {F : Hp} {xs : List V} {ds : List PyData} {k : Int} (h : DpAll K F xs ds) (e : atI ds k = some d) : ∃ v, atI xs k = some v ∧ Dp K F v d := by
  unfold atI at e ⊢
  rw [h.length]
  cases hi : ixN ds.length k with
  | none => rw [hi] at e; cases e
  | some j =>
    rw [hi] at e
    exact h.get e
theorem ev_ixT {k : Int} (ha : EvD q a σ (.tuple ds) σ1) (hb : EvD q b σ1 (.int k) σ2) (hd : atI ds k = some d) (hs : PlainIx b := by intro _ _; rfl) : EvD q (.Subscript a b pos) σ d σ2 := fun X hX vs bd F R H s Φ f =>
  wE_of (pe_ix ix_tup (pE a) (pE b) hs) (ha X hX vs bd F R H s _ fun u F1 H1 e1 s1 h1 => hb X hX vs bd F1 R H1 s1 _ fun v F2 H2 e2 s2 h2 => by
    cases h1 with
    | tup z1 z2 =>
      cases h2
      obtain ⟨v, hv, hw⟩ := atI_dp z2 hd
      exact ⟨_, _, k, v, rfl, rfl, by rw [hX.K]; exact Evl.ex_t (e2.trans s2.sim.fh) z1, hv, f v F2 H2 (e1.trans e2) s2 (hw.mono e2)⟩)
theorem ev_ixL {k : Int} (ha : EvD q a σ (.list ds) σ1) (hb : EvD q b σ1 (.int k) σ2) (hd : atI ds k = some d) (hs : PlainIx b := by intro _ _; rfl) : EvD q (.Subscript a b pos) σ d σ2 := fun X hX vs bd F R H s Φ f =>
  wE_of (pe_ix ix_list (pE a) (pE b) hs) (ha X hX vs bd F R H s _ fun u F1 H1 e1 s1 h1 => hb X hX vs bd F1 R H1 s1 _ fun v F2 H2 e2 s2 h2 => by
    cases h1 with
    | lst z1 z2 =>
      cases h2
      obtain ⟨v, hv, hw⟩ := atI_dp z2 hd
      exact ⟨_, _, k, v, rfl, rfl, by rw [hX.K]; exact Evl.ex_l (e2.trans s2.sim.fh) z1, hv, f v F2 H2 (e1.trans e2) s2 (hw.mono e2)⟩)
/-- an item of the list of a slot, which stays the slot's -/
theorem ev_ixN {k : Int} (h : Sl q x i) (h0 : σ.lst i = some es') (hb : EvD q b σ (.int k) σ2) (hl : σ2.lst i = some ds) (hd : atI ds k = some d) (hs : PlainIx b := by intro _ _; rfl) : EvD q (.Subscript (.Name x p) b pos) σ d σ2 := fun X hX vs bd F R H s Φ f =>
  wE_of (pe_ix ix_list (h.pe hX) (pE b) hs) (by
    obtain ⟨p0, xs0, e0, _⟩ := s.lst_ h0
    refine ⟨_, e0, hb X hX vs bd F R H s _ fun v F2 H2 e2 s2 h2 => ?_⟩
    obtain ⟨p1, xs, e1, z1, z2⟩ := s2.lst_ hl
    rw [e0] at e1
    cases e1
    cases h2
    obtain ⟨v, hv, hw⟩ := atI_dp z2 hd
    exact ⟨_, _, k, v, rfl, rfl, by rw [hX.K]; exact z1, hv, f v F2 H2 e2 s2 hw⟩)
theorem ev_ixS {k : Int} {y : Str} {c : Nat} (ha : EvD q a σ (.str y) σ1) (hb : EvD q b σ1 (.int k) σ2) (hz : y.length ≤ sizeLine) (hd : atI y.cps.toList k = some c) (hs : PlainIx b := by intro _ _; rfl) : EvD q (.Subscript a b pos) σ (.str ⟨#[c]⟩) σ2 := fun X hX vs bd F R H s Φ f =>
  wE_of (pe_ix ix_str (pE a) (pE b) hs) (ha X hX vs bd F R H s _ fun u F1 H1 e1 s1 h1 => hb X hX vs bd F1 R H1 s1 _ fun v F2 H2 e2 s2 h2 => by
    cases h1; cases h2
    exact ⟨y, k, c, rfl, rfl, hz, hd, f _ F2 H2 (e1.trans e2) s2 (.str _)⟩)

/-! ### slices -/
/-- a part of a slice -/
structure EvP (q : Q) (o : Option Expr) (σ : S) (k : Option Int) (σ' : S) : Prop where
  run : ∀ X, q.In X → ∃ t : TO, PO X o t ∧ ∀ vs bd F R H, SM q.g.K σ vs bd F R H → ∀ Φ : Option Int → Hp → Prop, (∀ F' H', Ex F F' → SM q.g.K σ' vs bd F' R H' → Φ k H') → t vs H Φ
theorem ep_none : EvP q none σ none σ := ⟨fun X hX => ⟨_, po_none, fun vs bd F R H s Φ f => f F H (Ex.refl _) s⟩⟩
theorem ep_some {k : Int} (h : EvD q e σ (.int k) σ') : EvP q (some e) σ (some k) σ' := ⟨fun X hX => ⟨_, po_some (pE e), fun vs bd F R H s Φ f => h X hX vs bd F R H s _ fun v F' H' ex s' hd => by cases hd; exact ⟨k, rfl, f F' H' ex s'⟩⟩⟩
variable {lo hi : Option Expr} {l u : Option Int}
theorem ev_slS {y : Str} (ha : EvD q a σ (.str y) σ1) (hl : EvP q lo σ1 l σ2) (hh : EvP q hi σ2 u σ3) (hz : y.length ≤ sizeLine) : EvD q (.Subscript a (.Slice lo hi none p2) pos) σ (.str (cutS y l u)) σ3 := fun X hX vs bd F R H s Φ f => by
  obtain ⟨tl, pl, wl⟩ := hl.run X hX
  obtain ⟨th, ph, wh⟩ := hh.run X hX
  exact wE_of (pe_slice sl_str (pE a) pl ph) (ha X hX vs bd F R H s _ fun v F1 H1 e1 s1 h1 => wl vs bd F1 R H1 s1 _ fun F2 H2 e2 s2 => wh vs bd F2 R H2 s2 _ fun F3 H3 e3 s3 => by
    cases h1
    exact ⟨y, rfl, hz, f _ F3 H3 ((e1.trans e2).trans e3) s3 (.str _)⟩)
def cutD (ds : List PyData) (lo hi : Option Int) : List PyData := (ds.drop (HT.sIx ds.length 0 lo)).take (HT.sIx ds.length ds.length hi - HT.sIx ds.length 0 lo)
theorem cutD_dp {K : PySem.W.Frag} {F : Hp} {xs : List V} {ds : List PyData} (h : DpAll K F xs ds) (lo hi : Option Int) : DpAll K F (cutV xs lo hi) (cutD ds lo hi) := by
  unfold cutV cutD
  rw [h.length]
  exact (h.drop _).take _
/-- of a list as data -/
theorem eo_sl (ha : EvD q a σ (.list ds) σ1) (hl : EvP q lo σ1 l σ2) (hh : EvP q hi σ2 u σ3) : EvO q (.Subscript a (.Slice lo hi none p2) pos) σ (cutD ds l u) σ3 := fun X hX vs bd F R H s Φ f => by
  obtain ⟨tl, pl, wl⟩ := hl.run X hX
  obtain ⟨th, ph, wh⟩ := hh.run X hX
  refine wE_of (pe_slice sl_list (pE a) pl ph) (ha X hX vs bd F R H s _ fun v F1 H1 e1 s1 h1 => wl vs bd F1 R H1 s1 _ fun F2 H2 e2 s2 => wh vs bd F2 R H2 s2 _ fun F3 H3 e3 s3 => ?_)
  cases h1 with
  | lst z1 z2 =>
    exact ⟨_, _, rfl, by rw [hX.K]; exact Evl.ex_l ((e2.trans e3).trans s3.sim.fh) z1, fun p hp => f p F3 _ ((e1.trans e2).trans e3) s3.ln (s3.sim.newOwn hp (cutD_dp (z2.mono (e2.trans e3)) l u))⟩
/-- of the list of a slot, which stays -/
theorem eo_slN (h : Sl q x i) (h0 : σ.lst i = some es') (hl : EvP q lo σ l σ2) (hh : EvP q hi σ2 u σ3) (h3 : σ3.lst i = some ds) : EvO q (.Subscript (.Name x p) (.Slice lo hi none p2) pos) σ (cutD ds l u) σ3 := fun X hX vs bd F R H s Φ f => by
  obtain ⟨tl, pl, wl⟩ := hl.run X hX
  obtain ⟨th, ph, wh⟩ := hh.run X hX
  obtain ⟨p0, xs0, e0, _⟩ := s.lst_ h0
  refine wE_of (pe_slice sl_list (h.pe hX) pl ph) ⟨_, e0, wl vs bd F R H s _ fun F2 H2 e2 s2 => wh vs bd F2 R H2 s2 _ fun F3 H3 e3 s3 => ?_⟩
  obtain ⟨p1, xs, e1, z1, z2⟩ := s3.lst_ h3
  rw [e0] at e1
  cases e1
  exact ⟨_, _, rfl, by rw [hX.K]; exact z1, fun p hp => f p F3 _ (e2.trans e3) s3.ln (s3.sim.newOwn hp (cutD_dp z2 l u))⟩
theorem cutD_whole {ds : List PyData} {lo hi : Option Int} (h : HT.sIx ds.length 0 lo = 0 ∧ HT.sIx ds.length ds.length hi = ds.length) : cutD ds lo hi = ds := by
  unfold cutD
  rw [h.1, h.2]
  simp
theorem ev_slT (ha : EvD q a σ (.tuple ds) σ1) (hl : EvP q lo σ1 l σ2) (hh : EvP q hi σ2 u σ3) : EvD q (.Subscript a (.Slice lo hi none p2) pos) σ (.tuple (cutD ds l u)) σ3 := fun X hX vs bd F R H s Φ f => by
  obtain ⟨tl, pl, wl⟩ := hl.run X hX
  obtain ⟨th, ph, wh⟩ := hh.run X hX
  refine wE_of (pe_slice sl_tupA (pE a) pl ph) (ha X hX vs bd F R H s _ fun v F1 H1 e1 s1 h1 => wl vs bd F1 R H1 s1 _ fun F2 H2 e2 s2 => wh vs bd F2 R H2 s2 _ fun F3 H3 e3 s3 => ?_)
  have h1' := h1.mono (e2.trans e3)
  cases h1 with
  | tup z1 z2 =>
    refine ⟨_, _, rfl, by rw [hX.K]; exact Evl.ex_t ((e2.trans e3).trans s3.sim.fh) z1, fun hw => ?_, fun hw p hp => ?_⟩
    · rw [z2.length] at hw
      rw [cutD_whole hw] at f
      exact f _ F3 H3 ((e1.trans e2).trans e3) s3 h1'
    · have fp := s3.sim.freshF hp
      exact f (.ref p) (upd F3 p (.tup _)) _ (((e1.trans e2).trans e3).trans (Ex.new fp)) ⟨s3.ln, s3.sim.lay hp⟩ (.tup (Evl.st_of upd_same) ((cutD_dp (z2.mono (e2.trans e3)) l u).mono (Ex.new fp)))
theorem ev_catT {es1 es2 : List PyData} (ha : EvD q a σ (.tuple es1) σ1) (hb : EvD q b σ1 (.tuple es2) σ2) (hz : es1.length + es2.length ≤ sizeLine) : EvD q (.BinOp a .Add b pos) σ (.tuple (es1 ++ es2)) σ2 :=
  ev_op (r := rCatA q.g.K) (fun X hX => by rw [← hX.K]; exact op_catA) ha hb fun vs bd F R H u v s h1 h2 Φ f => by
    have h1' := h1
    have h2' := h2
    cases h1 with
    | tup z1 z2 =>
      cases h2 with
      | tup y1 y2 =>
        refine ⟨_, _, _, _, rfl, rfl, Evl.ex_t s.sim.fh z1, Evl.ex_t s.sim.fh y1, by rw [z2.length, y2.length]; exact hz, fun e => ?_, fun _ e => ?_, fun _ _ p hp => ?_⟩
        · subst e
          cases z2
          exact f _ F H (Ex.refl _) s h2'
        · subst e
          cases y2
          rw [List.append_nil] at f
          exact f _ F H (Ex.refl _) s h1'
        · have fp := s.sim.freshF hp
          exact f (.ref p) (upd F p (.tup _)) _ (Ex.new fp) ⟨s.ln, s.sim.lay hp⟩ (.tup (Evl.st_of upd_same) ((z2.append y2).mono (Ex.new fp)))

/-! ### calls of built-ins -/
theorem ev_call1 {f : Value} {r : List V → Hp → VK → Prop} (hp : ∀ X, q.In X → PE X (.Call (.Name x p) [e] [] pos) (tCB r (tCons (wE X e) tNil))) (he : EvD q e σ d σ1)
    (hr : ∀ vs bd F R H v, SM q.g.K σ1 vs bd F R H → Dp q.g.K F v d → ∀ Φ : VK, (∀ w F' H', Ex F F' → SM q.g.K σ2 vs bd F' R H' → Dp q.g.K F' w z → Φ w H') → r [v] H Φ) : EvD q (.Call (.Name x p) [e] [] pos) σ z σ2 := fun X hX vs bd F R H s Φ f =>
  wE_of (hp X hX) (he X hX vs bd F R H s _ fun v F1 H1 e1 s1 h1 => hr vs bd F1 R H1 v s1 h1 _ fun w F2 H2 e2 => f w F2 H2 (e1.trans e2))
theorem ev_call1L {r : List V → Hp → VK → Prop} (hp : ∀ X, q.In X → PE X (.Call (.Name x p) [e] [] pos) (tCB r (tCons (wE X e) tNil))) (he : EvL q e σ ds σ1)
    (hr : ∀ vs bd F R H p xs, SM q.g.K σ1 vs bd F R H → SqL q.g.K H p xs → DpAll q.g.K F xs ds → ∀ Φ : VK, (∀ w F' H', Ex F F' → SM q.g.K σ2 vs bd F' R H' → Dp q.g.K F' w z → Φ w H') → r [.ref p] H Φ) : EvD q (.Call (.Name x p) [e] [] pos) σ z σ2 := fun X hX vs bd F R H s Φ f =>
  wE_of (hp X hX) (he X hX vs bd F R H s _ fun p xs F1 H1 e1 s1 h1 h2 => hr vs bd F1 R H1 p xs s1 h1 h2 _ fun w F2 H2 e2 => f w F2 H2 (e1.trans e2))
theorem Bi.c1 {id : String} {r : List V → Hp → VK → Prop} (B : Bi q x (.builtin id)) (hc : ∀ X, q.In X → CallR X (.builtin id) r) (X : Cx) (hX : q.In X) (he : ∀ env, starEach [e] env = (false, eval e env) :: starEach [] env := by intro _; rfl) : PE X (.Call (.Name x p) [e] [] pos) (tCB r (tCons (wE X e) tNil)) :=
  pe_callB (hc X hX) (B.gl.gl hX) (by rw [hX.mg]; exact B.mg) B.bt (pa_cons (pE e) pa_nil (he _)) B.nn B.nd (he _)
theorem Bi.t1 {T : String} {r : List V → Hp → VK → Prop} (B : Bi q x (.type T)) (hc : ∀ X, q.In X → CallR X (.type T) r) (X : Cx) (hX : q.In X) (he : ∀ env, starEach [e] env = (false, eval e env) :: starEach [] env := by intro _; rfl) : PE X (.Call (.Name x p) [e] [] pos) (tCB r (tCons (wE X e) tNil)) :=
  pe_callTy (hc X hX) (B.gl.gl hX) (by rw [hX.mg]; exact B.mg) B.bt (pa_cons (pE e) pa_nil (he _)) B.nn B.nd (he _)
theorem ev_lenL (B : Bi q x (.builtin "len")) (he : EvL q e σ ds σ1) (hs : ∀ env, starEach [e] env = (false, eval e env) :: starEach [] env := by intro _; rfl) : EvD q (.Call (.Name x p) [e] [] pos) σ (.int ds.length) σ1 :=
  ev_call1L (B.c1 (r := fun xs H Q => ∃ p ys, xs = [.ref p] ∧ (SqL q.g.K H p ys ∨ SqT q.g.K H p ys) ∧ Q (.int ys.length) H) (fun X hX => by rw [← hX.K]; exact call_len_seq) · · hs) he
    fun vs bd F R H p xs s h1 h2 Φ f => ⟨p, xs, rfl, .inl h1, f _ F H (Ex.refl _) s (by rw [h2.length]; exact .int _)⟩
theorem ev_lenT (B : Bi q x (.builtin "len")) (he : EvD q e σ (.tuple ds) σ1) (hs : ∀ env, starEach [e] env = (false, eval e env) :: starEach [] env := by intro _; rfl) : EvD q (.Call (.Name x p) [e] [] pos) σ (.int ds.length) σ1 :=
  ev_call1 (f := .none) (B.c1 (r := fun xs H Q => ∃ p ys, xs = [.ref p] ∧ (SqL q.g.K H p ys ∨ SqT q.g.K H p ys) ∧ Q (.int ys.length) H) (fun X hX => by rw [← hX.K]; exact call_len_seq) · · hs) he
    fun vs bd F R H v s h1 Φ f => by
      cases h1 with
      | tup z1 z2 => exact ⟨_, _, rfl, .inr (Evl.ex_t s.sim.fh z1), f _ F H (Ex.refl _) s (by rw [z2.length]; exact .int _)⟩
theorem ev_lenS {y : Str} (B : Bi q x (.builtin "len")) (he : EvD q e σ (.str y) σ1) (hz : y.length ≤ sizeLine) (hs : ∀ env, starEach [e] env = (false, eval e env) :: starEach [] env := by intro _; rfl) : EvD q (.Call (.Name x p) [e] [] pos) σ (.int y.length) σ1 :=
  ev_call1 (f := .none) (B.c1 (fun X hX => call_len_str) · · hs) he fun vs bd F R H v s h1 Φ f => by
    cases h1
    exact ⟨y, rfl, hz, f _ F H (Ex.refl _) s (.int _)⟩
theorem ev_abs {i : Int} (B : Bi q x (.builtin "abs")) (he : EvD q e σ (.int i) σ1) (hs : ∀ env, starEach [e] env = (false, eval e env) :: starEach [] env := by intro _; rfl) : EvD q (.Call (.Name x p) [e] [] pos) σ (.int (if i < 0 then -i else i)) σ1 :=
  ev_call1 (f := .none) (B.c1 (fun X hX => call_abs) · · hs) he fun vs bd F R H v s h1 Φ f => by
    cases h1
    exact ⟨i, rfl, f _ F H (Ex.refl _) s (.int _)⟩
theorem ev_intI {i : Int} (B : Bi q x (.type "int")) (he : EvD q e σ (.int i) σ1) (hs : ∀ env, starEach [e] env = (false, eval e env) :: starEach [] env := by intro _; rfl) : EvD q (.Call (.Name x p) [e] [] pos) σ (.int i) σ1 :=
  ev_call1 (f := .none) (B.t1 (fun X hX => call_int1) · · hs) he fun vs bd F R H v s h1 Φ f => by
    cases h1
    exact .inl ⟨i, rfl, f _ F H (Ex.refl _) s (.int _)⟩
theorem ev_intB {k : Bool} (B : Bi q x (.type "int")) (he : EvD q e σ (.bool k) σ1) (hs : ∀ env, starEach [e] env = (false, eval e env) :: starEach [] env := by intro _; rfl) : EvD q (.Call (.Name x p) [e] [] pos) σ (.int (if k then 1 else 0)) σ1 :=
  ev_call1 (f := .none) (B.t1 (fun X hX => call_int1) · · hs) he fun vs bd F R H v s h1 Φ f => by
    cases h1
    exact .inr ⟨k, rfl, f _ F H (Ex.refl _) s (.int _)⟩
theorem ev_tupleL (B : Bi q x (.type "tuple")) (he : EvL q e σ ds σ1) (hs : ∀ env, starEach [e] env = (false, eval e env) :: starEach [] env := by intro _; rfl) : EvD q (.Call (.Name x p) [e] [] pos) σ (.tuple ds) σ1 :=
  ev_call1L (B.t1 (r := fun xs H Q => ∃ p ys, xs = [.ref p] ∧ ((SqL q.g.K H p ys ∧ ∀ l, H l = none → Q (.ref l) (upd H l (.tup ys))) ∨ (SqT q.g.K H p ys ∧ Q (.ref p) H))) (fun X hX => by rw [← hX.K]; exact call_tuple_of) · · hs) he
    fun vs bd F R H p xs s h1 h2 Φ f => ⟨p, xs, rfl, .inl ⟨h1, fun l hl => f (.ref l) (upd F l (.tup xs)) _ (Ex.new (s.sim.freshF hl)) ⟨s.ln, s.sim.lay hl⟩ (.tup (Evl.st_of upd_same) (h2.mono (Ex.new (s.sim.freshF hl))))⟩⟩
theorem eo_listL (B : Bi q x (.type "list")) (he : EvL q e σ ds σ1) (hs : ∀ env, starEach [e] env = (false, eval e env) :: starEach [] env := by intro _; rfl) : EvO q (.Call (.Name x p) [e] [] pos) σ ds σ1 := fun X hX vs bd F R H s Φ f =>
  wE_of (B.t1 (r := fun xs H Q => ∃ p ys, xs = [.ref p] ∧ (SqL q.g.K H p ys ∨ SqT q.g.K H p ys) ∧ ∀ l, H l = none → Q (.ref l) (upd H l (.lst ys))) (fun X hX => by rw [← hX.K]; exact call_list_of) X hX hs)
    (he X hX vs bd F R H s _ fun p xs F1 H1 e1 s1 h1 h2 => ⟨p, xs, rfl, .inl h1, fun l hl => f l F1 _ e1 s1.ln (s1.sim.newOwn hl h2)⟩)
theorem eo_listT (B : Bi q x (.type "list")) (he : EvD q e σ (.tuple ds) σ1) (hs : ∀ env, starEach [e] env = (false, eval e env) :: starEach [] env := by intro _; rfl) : EvO q (.Call (.Name x p) [e] [] pos) σ ds σ1 := fun X hX vs bd F R H s Φ f =>
  wE_of (B.t1 (r := fun xs H Q => ∃ p ys, xs = [.ref p] ∧ (SqL q.g.K H p ys ∨ SqT q.g.K H p ys) ∧ ∀ l, H l = none → Q (.ref l) (upd H l (.lst ys))) (fun X hX => by rw [← hX.K]; exact call_list_of) X hX hs)
    (he X hX vs bd F R H s _ fun v F1 H1 e1 s1 h1 => by
      cases h1 with
      | tup z1 z2 => exact ⟨_, _, rfl, .inr (Evl.ex_t s1.sim.fh z1), fun l hl => f l F1 _ e1 s1.ln (s1.sim.newOwn hl z2)⟩)
/-- the least of some ints -/
theorem ev_min {ns : List Int} {m : Int} (B : Bi q x (.builtin "min")) (he : EvL q e σ (ns.map .int) σ1) (h1 : m ∈ ns) (h2 : ∀ y ∈ ns, m ≤ y) (hs : ∀ env, starEach [e] env = (false, eval e env) :: starEach [] env := by intro _; rfl) : EvD q (.Call (.Name x p) [e] [] pos) σ (.int m) σ1 :=
  ev_call1L (B.c1 (r := rMin q.g.K) (fun X hX => by rw [← hX.K]; exact cr_min hX.calm) · · hs) he fun vs bd F R H p xs s z1 z2 Φ f => by
    rw [z2.ints] at z1
    refine ⟨p, ns, rfl, z1, List.length_pos_of_mem h1, fun m' a b => ?_⟩
    have e : m' = m := Int.le_antisymm (b m h1) (h2 m' a)
    subst e
    exact f _ F H (Ex.refl _) s (.int _)
theorem ev_all {bs : List Bool} (B : Bi q x (.builtin "all")) (he : EvL q e σ (bs.map .bool) σ1) (hs : ∀ env, starEach [e] env = (false, eval e env) :: starEach [] env := by intro _; rfl) : EvD q (.Call (.Name x p) [e] [] pos) σ (.bool (bs.all id)) σ1 :=
  ev_call1L (B.c1 (r := rAll q.g.K) (fun X hX => by rw [← hX.K]; exact cr_all hX.calm) · · hs) he fun vs bd F R H p xs s z1 z2 Φ f => by
    rw [z2.bls] at z1
    exact ⟨p, bs, rfl, z1, f _ F H (Ex.refl _) s (.bl _)⟩
end
end TR

set_option Elab.async false
set_option linter.all false
set_option maxRecDepth 100000
set_option maxHeartbeats 1000000
namespace TR
open PySem PySem.Spec L2
open Evl (Ex)

/-! ### cells of slots -/
def S.cellAt (σ : S) (i : Nat) : Option Cell := match σ.ws[i]? with
  | some (.own c) => some c
  | some (.bor k) => σ.bs[k]?
  | _ => none
def S.put (σ : S) (i : Nat) (c : Cell) : S := match σ.ws[i]? with
  | some (.own _) => ⟨σ.ws.set i (.own c), σ.bs⟩
  | some (.bor k) => ⟨σ.ws, σ.bs.set k c⟩
  | _ => σ
section
variable {K : PySem.W.Frag} {σ : S} {vs : L2.St} {bd : List Addr} {F F' R H H' : Hp} {i : Nat} {p : Addr} {c c' : Cell}
theorem S.put_len : (σ.put i c).ws.length = σ.ws.length := by
  unfold S.put
  split <;> simp
theorem SM.cell_at (s : SM K σ vs bd F R H) (h : σ.cellAt i = some c) : ∃ p, vs[i]? = some (some (.ref p)) ∧ CellOk K F H p c ∧ F p = none ∧ R p = none := by
  unfold S.cellAt at h
  cases e : σ.ws[i]? with
  | none => rw [e] at h; cases h
  | some w =>
    rw [e] at h
    cases w with
    | own c0 =>
      cases h
      obtain ⟨o, e1, hm, p, rfl, hc⟩ := s.at_ e
      have m : p ∈ bd ++ (σ.ws.zip vs).filterMap own1 := List.mem_append_right _ (List.mem_filterMap.mpr ⟨_, hm, rfl⟩)
      exact ⟨p, e1, hc, s.sim.out p m⟩
    | bor k =>
      obtain ⟨o, e1, _, p, rfl, hp⟩ := s.at_ e
      exact ⟨p, e1, s.sim.bo k p c hp h, s.sim.out p (List.mem_append_left _ (List.mem_of_getElem? hp))⟩
    | _ => cases h
theorem nd_ix' {α : Type} {l : List α} (hN : l.Nodup) {i j : Nat} {x : α} (a : l[i]? = some x) (b : l[j]? = some x) : i = j := nd_ix hN a b
/-- the cell of slot i has changed, perhaps more is frozen, nothing else of ours has changed -/
theorem SM.putc (s : SM K σ vs bd F R H) (h : σ.cellAt i = some c) (hp : vs[i]? = some (some (.ref p))) (e1 : Ex F F') (e2 : Ex F' H') (kp : ∀ a o, a ≠ p → F a = none → H a = some o → H' a = some o ∧ F' a = none)
    (hc : CellOk K F' H' p c') (fp : F' p = none) : SM K (σ.put i c') vs bd F' R H' := by
  have keepC : ∀ (a : Addr) (x : Cell), a ≠ p → F a = none → CellOk K F H a x → CellOk K F' H' a x := fun a x ne fa z => by
    obtain ⟨o, ho⟩ := Sim.hp z
    exact z.cong e1 (by rw [(kp a o ne fa ho).1, ho])
  have rh' : Ex R H' := fun a o e => by
    have fa := s.sim.fr a o e
    by_cases z : a = p
    · subst z
      obtain ⟨p', q1, q2, _, q3⟩ := s.cell_at h
      rw [hp] at q1
      cases q1
      rw [q3] at e; cases e
    · exact (kp a o z fa (s.sim.rh a o e)).1
  have fr' : ∀ a o, R a = some o → F' a = none := fun a o e => by
    have fa := s.sim.fr a o e
    by_cases z : a = p
    · subst z; exact fp
    · exact (kp a o z fa (s.sim.rh a o e)).2
  have out' : ∀ a ∈ bd ++ (σ.ws.zip vs).filterMap own1, F' a = none ∧ R a = none := fun a ha => by
    obtain ⟨x1, x2⟩ := s.sim.out a ha
    by_cases z : a = p
    · subst z; exact ⟨fp, x2⟩
    · obtain ⟨o, ho⟩ := s.sim.ownHp ha
      exact ⟨(kp a o z x1 ho).2, x2⟩
  have nd := List.nodup_append.mp s.sim.nd
  unfold S.cellAt at h
  cases e : σ.ws[i]? with
  | none => rw [e] at h; cases h
  | some w =>
    rw [e] at h
    cases w with
    | own c0 =>
      cases h
      have ep : σ.put i c' = ⟨σ.ws.set i (.own c'), σ.bs⟩ := by unfold S.put; rw [e]
      rw [ep]
      have hz : (σ.ws.zip vs)[i]? = some (W.own c, some (V.ref p)) := zip_at e hp
      have pm := perm_ix hz
      have ev : vs.set i (some (V.ref p)) = vs := set_self hp
      have s0 := s.sim.perm pm
      have hl : i < (σ.ws.zip vs).length := (List.getElem?_eq_some_iff.mp hz).1
      have fm : ((W.own c, some (V.ref p)) :: (σ.ws.zip vs).eraseIdx i).filterMap own1 = ((W.own c', some (V.ref p)) :: (σ.ws.zip vs).eraseIdx i).filterMap own1 := rfl
      have mp : p ∈ bd ++ ((W.own c, some (V.ref p)) :: (σ.ws.zip vs).eraseIdx i).filterMap own1 := List.mem_append_right _ (List.mem_cons_self)
      have nd0 := List.nodup_append.mp s0.nd
      have nin : ∀ q ∈ (σ.ws.zip vs).eraseIdx i, own1 q ≠ some p := fun q hq z => by
        have nd1 : (p :: ((σ.ws.zip vs).eraseIdx i).filterMap own1).Nodup := nd0.2.1
        exact (List.nodup_cons.mp nd1).1 (List.mem_filterMap.mpr ⟨q, hq, z⟩)
      have s1 : Sim K ((W.own c', some (V.ref p)) :: (σ.ws.zip vs).eraseIdx i) bd σ.bs F' R H' := by
        refine ⟨e2, rh', fr', s.sim.len, fun q hq => ?_, fun k a x a1 a2 => ?_, by rw [← fm]; exact s0.nd, fun a ha => out' a ?_⟩
        · rcases List.mem_cons.mp hq with rfl | hq'
          · exact ⟨p, rfl, hc⟩
          · have z := s0.ok q (List.mem_cons_of_mem _ hq')
            refine z.cong e1 fun a ha => ?_
            have ne : a ≠ p := fun t => nin q hq' (by rw [← t]; exact ha)
            have ma : a ∈ bd ++ ((W.own c, some (V.ref p)) :: (σ.ws.zip vs).eraseIdx i).filterMap own1 := List.mem_append_right _ (List.mem_filterMap.mpr ⟨q, List.mem_cons_of_mem _ hq', ha⟩)
            obtain ⟨o, ho⟩ := s0.ownHp ma
            rw [(kp a o ne (s0.out a ma).1 ho).1, ho]
        · have ne : a ≠ p := fun t => by
            subst t
            exact nd0.2.2 a (List.mem_of_getElem? a1) a List.mem_cons_self rfl
          have ma : a ∈ bd ++ ((W.own c, some (V.ref p)) :: (σ.ws.zip vs).eraseIdx i).filterMap own1 := List.mem_append_left _ (List.mem_of_getElem? a1)
          exact keepC a x ne (s0.out a ma).1 (s0.bo k a x a1 a2)
        · rw [← fm] at ha
          exact (List.Perm.append_left bd (pm.filterMap own1)).mem_iff.mpr ha
      refine ⟨by simp [s.ln], ?_⟩
      show Sim K ((σ.ws.set i (.own c')).zip vs) bd σ.bs F' R H'
      rw [← ev, zip_set]
      exact s1.perm (set_ix hl)
    | bor k =>
      dsimp only at h
      have ep : σ.put i c' = ⟨σ.ws, σ.bs.set k c'⟩ := by unfold S.put; rw [e]
      rw [ep]
      obtain ⟨o, q1, q2, p', rfl, hk⟩ := s.at_ e
      rw [hp] at q1
      cases q1
      refine ⟨s.ln, ⟨e2, rh', fr', by rw [List.length_set]; exact s.sim.len, fun q hq => ?_, fun k' a x a1 a2 => ?_, s.sim.nd, out'⟩⟩
      · refine (s.sim.ok q hq).cong e1 fun a ha => ?_
        have ma : a ∈ (σ.ws.zip vs).filterMap own1 := List.mem_filterMap.mpr ⟨q, hq, ha⟩
        have ne : a ≠ p := fun t => by
          subst t
          exact nd.2.2 a (List.mem_of_getElem? hk) a ma rfl
        obtain ⟨o, ho⟩ := s.sim.ownHp (List.mem_append_right bd ma)
        rw [(kp a o ne (s.sim.out a (List.mem_append_right bd ma)).1 ho).1, ho]
      · by_cases z : k' = k
        · subst z
          rw [hk] at a1
          cases a1
          rw [List.getElem?_set_self (List.getElem?_eq_some_iff.mp h).1] at a2
          cases a2
          exact hc
        · have a2' : σ.bs[k']? = some x := by
            rw [List.getElem?_set_ne (Ne.symm z)] at a2
            exact a2
          have ne : a ≠ p := fun t => by subst t; exact z (nd_ix nd.1 a1 hk)
          exact keepC a x ne (s.sim.out a (List.mem_append_left _ (List.mem_of_getElem? a1))).1 (s.sim.bo k' a x a1 a2')
    | _ => cases h
theorem SM.mut (s : SM K σ vs bd F R H) (h : σ.cellAt i = some c) (hp : vs[i]? = some (some (.ref p))) {xs : List V} {ds : List PyData} (hd : DpAll K F xs ds) : SM K (σ.put i (.lst ds)) vs bd F R (upd H p (.lst xs)) := by
  obtain ⟨p', q1, q2, q3, q4⟩ := s.cell_at h
  rw [hp] at q1
  cases q1
  refine s.putc h hp (Ex.refl _) (fun a o e => ?_) (fun a o ne fa ha => ⟨by rw [upd_ne ne]; exact ha, fa⟩) ⟨xs, upd_same, hd⟩ q3
  have ne : a ≠ p := fun t => by subst t; rw [q3] at e; cases e
  rw [upd_ne ne]
  exact s.sim.fh a o e
end

/-! ### statements -/
inductive Out where
  | nx (σ : S)
  | rd (d : PyData) (σ : S)
  | ro (ds : List PyData) (σ : S)
  | bk (σ : S)
  | ct (σ : S)
def Out.ok (K : PySem.W.Frag) (bd : List Addr) (F R : Hp) (D : Ends) : Out → Prop
  | .nx σ => ∀ vs F' H, Ex F F' → SM K σ vs bd F' R H → D.nx vs H
  | .rd d σ => ∀ v vs F' H, Ex F F' → SM K σ vs bd F' R H → Dp K F' v d → D.rt v H
  | .ro ds σ => ∀ p vs F' H, Ex F F' → vs.length = σ.ws.length → Sim K ((.own (.lst ds), some (.ref p)) :: σ.ws.zip vs) bd σ.bs F' R H → D.rt (.ref p) H
  | .bk σ => ∀ vs F' H, Ex F F' → SM K σ vs bd F' R H → D.bk vs H
  | .ct σ => ∀ vs F' H, Ex F F' → SM K σ vs bd F' R H → D.ct vs H
def EvS (q : Q) (st : Stmt) (σ : S) (o : Out) : Prop := ∀ X, q.In X → ∀ vs bd F R H, SM q.g.K σ vs bd F R H → ∀ D : Ends, o.ok q.g.K bd F R D → wS X st D vs H
def EvB (q : Q) (sts : List Stmt) (σ : S) (o : Out) : Prop := ∀ X, q.In X → ∀ vs bd F R H, SM q.g.K σ vs bd F R H → ∀ D : Ends, o.ok q.g.K bd F R D → wSs X sts D vs H
section
variable {q : Q} {e a b c : Expr} {es : List Expr} {st : Stmt} {sts body : List Stmt} {σ σ1 σ2 σ3 σ' : S} {d d1 d2 : PyData} {ds : List PyData} {pos p2 p : Pos} {x y : Str} {i j : Nat} {o : Out}
theorem Out.ok.mono {K : PySem.W.Frag} {bd : List Addr} {F F' R : Hp} {D : Ends} (h : o.ok K bd F R D) (e : Ex F F') : o.ok K bd F' R D := by
  cases o with
  | nx σ => exact fun vs F2 H e2 s => h vs F2 H (e.trans e2) s
  | rd d σ => exact fun v vs F2 H e2 s => h v vs F2 H (e.trans e2) s
  | ro ds σ => exact fun p vs F2 H e2 s => h p vs F2 H (e.trans e2) s
  | bk σ => exact fun vs F2 H e2 s => h vs F2 H (e.trans e2) s
  | ct σ => exact fun vs F2 H e2 s => h vs F2 H (e.trans e2) s
def Out.notNx : Out → Prop
  | .nx _ => False
  | _ => True
theorem Out.ok.nx {K : PySem.W.Frag} {bd : List Addr} {F R : Hp} {D : Ends} (h : o.ok K bd F R D) (hn : o.notNx) (N : L2.St → Hp → Prop) : o.ok K bd F R { D with nx := N } := by
  cases o with
  | nx σ => exact hn.elim
  | _ => exact h
theorem eb_nil : EvB q [] σ (.nx σ) := fun X hX vs bd F R H s D h => wSs_of pss_nil (h vs F H (Ex.refl _) s)
theorem eb_cons (h1 : EvS q st σ (.nx σ1)) (h2 : EvB q sts σ1 o) : EvB q (st :: sts) σ o := fun X hX vs bd F R H s D h =>
  wSs_of (pss_cons (pS st) (pSs sts)) (h1 X hX vs bd F R H s _ fun vs' F' H' ex s' => h2 X hX vs' bd F' R H' s' D (h.mono ex))
theorem eb_end (h1 : EvS q st σ o) (hn : o.notNx) : EvB q (st :: sts) σ o := fun X hX vs bd F R H s D h =>
  wSs_of (pss_cons (pS st) (pSs sts)) (h1 X hX vs bd F R H s _ (h.nx hn _))
theorem eb_one (h1 : EvS q st σ o) : EvB q [st] σ o := fun X hX vs bd F R H s D h => wSs_of (pss_one (pS st)) (h1 X hX vs bd F R H s D h)
theorem es_ret (h : EvD q e σ d σ1) : EvS q (.Return (some e) pos) σ (.rd d σ1) := fun X hX vs bd F R H s D f =>
  wS_of (ps_ret (pE e)) (h X hX vs bd F R H s _ fun v F' H' ex s' hd => f v vs F' H' ex s' hd)
theorem es_retO (h : EvO q e σ ds σ1) : EvS q (.Return (some e) pos) σ (.ro ds σ1) := fun X hX vs bd F R H s D f =>
  wS_of (ps_ret (pE e)) (h X hX vs bd F R H s _ fun p F' H' ex ln s' => f p vs F' H' ex ln s')
theorem es_expr (h : EvD q e σ d σ1) (hs : ∀ env, swapsWith e none pos.line env = pure false := by intro _; rfl) : EvS q (.Expr e pos) σ (.nx σ1) := fun X hX vs bd F R H s D f =>
  wS_of (ps_expr (pE e) (hs _)) (h X hX vs bd F R H s _ fun v F' H' ex s' hd => f vs F' H' ex s')
theorem es_ifT {u v : List Stmt} (hc : EvT q c σ true σ1) (h : EvB q u σ1 o) : EvS q (.If c u v pos) σ o := fun X hX vs bd F R H s D f =>
  wS_of (ps_if (pT c) (pSs u) (pSs v)) (hc X hX vs bd F R H s _ fun F' H' ex s' => by
    show (if true = true then _ else _)
    rw [if_pos rfl]
    exact h X hX vs bd F' R H' s' D (f.mono ex))
theorem es_ifF {u v : List Stmt} (hc : EvT q c σ false σ1) (h : EvB q v σ1 o) : EvS q (.If c u v pos) σ o := fun X hX vs bd F R H s D f =>
  wS_of (ps_if (pT c) (pSs u) (pSs v)) (hc X hX vs bd F R H s _ fun F' H' ex s' => by
    show (if false = true then _ else _)
    rw [if_neg (by decide)]
    exact h X hX vs bd F' R H' s' D (f.mono ex))
theorem es_break : EvS q (.Break pos) σ (.bk σ) := fun X hX vs bd F R H s D f => wS_of ps_break (f vs F H (Ex.refl _) s)
theorem es_cont : EvS q (.Continue pos) σ (.ct σ) := fun X hX vs bd F R H s D f => wS_of ps_continue (f vs F H (Ex.refl _) s)
theorem es_pass : EvS q (.Pass pos) σ (.nx σ) := fun X hX vs bd F R H s D f => wS_of ps_pass (f vs F H (Ex.refl _) s)

/-! ### stores -/
/-- x may be stored in slot i -/
structure Ss (q : Q) (x : Str) (i : Nat) : Prop where
  ix : q.N[i]? = some x
  loc : Loc q.sc x
  st : q.fx x = true ∨ q.sc.names.lookup x = some .local
theorem Ss.hf (h : Ss q x i) {X : Cx} (hX : q.In X) : X.fn x = true ∨ X.env.scope.names.lookup x = some .local := h.st.elim (fun z => .inl (hX.fn x z)) fun z => .inr (by rw [hX.sc]; exact z)
theorem Ss.set (h : Ss q x i) {X : Cx} (hX : q.In X) {te : TE} {pos' : Pos} (he : PE X e te) (hs : ∀ env, swapsWith e (some (.Name x pos')) pos.line env = pure false) : PS X (.Assign [.Name x pos'] e pos) (tAsg te (gName i)) :=
  ps_set hX.nd (by rw [hX.N]; exact h.ix) (by rw [hX.sc]; exact h.loc) he (hs _) (h.hf hX)
theorem es_set (h : Ss q x i) (he : EvD q e σ d σ1) {pos' : Pos} (hs : ∀ env, swapsWith e (some (.Name x pos')) pos.line env = pure false := by intro _; rfl) : EvS q (.Assign [.Name x pos'] e pos) σ (.nx (σ1.set i (.dat d))) := fun X hX vs bd F R H s D f =>
  wS_of (h.set hX (pE e) hs) (he X hX vs bd F R H s _ fun v F' H' ex s' hd => f _ F' H' ex (SM.store s'.ln (s'.sim.pushD hd)))
theorem es_setO (h : Ss q x i) (he : EvO q e σ ds σ1) {pos' : Pos} (hs : ∀ env, swapsWith e (some (.Name x pos')) pos.line env = pure false := by intro _; rfl) : EvS q (.Assign [.Name x pos'] e pos) σ (.nx (σ1.set i (.own (.lst ds)))) := fun X hX vs bd F R H s D f =>
  wS_of (h.set hX (pE e) hs) (he X hX vs bd F R H s _ fun p F' H' ex ln s' => f _ F' H' ex (SM.store ln s'))
/-- targets in a row of names -/
def S.sets (σ : S) : List Nat → List PyData → S
  | i :: is, d :: ds => (σ.set i (.dat d)).sets is ds
  | _, _ => σ
theorem wipe_set {o : Option V} : ∀ {js : List Nat} {vs : L2.St} {j : Nat}, j ∈ js → L2.wipe (vs.set j o) js = L2.wipe vs js
  | [], _, _, h => by simp at h
  | k :: js, vs, j, h => by
    show (L2.wipe (vs.set j o) js).set k none = (L2.wipe vs js).set k none
    by_cases hj : j ∈ js
    · rw [wipe_set hj]
    · have e : j = k := by
        rcases List.mem_cons.mp h with e | e
        · exact e
        · exact absurd e hj
      subst e
      have key : ∀ (l : List Nat) (vs : L2.St), j ∉ l → L2.wipe (vs.set j o) l = (L2.wipe vs l).set j o := by
        intro l
        induction l with
        | nil => intro vs _; rfl
        | cons a l ih =>
          intro vs hn
          show (L2.wipe (vs.set j o) l).set a none = ((L2.wipe vs l).set a none).set j o
          rw [ih vs (fun z => hn (List.mem_cons_of_mem _ z))]
          exact List.set_comm _ _ (fun z => hn (by rw [z]; exact List.mem_cons_self))
      rw [key js vs hj, List.set_set]
structure EvGs (q : Q) (ts : List Expr) (is : List Nat) (js : List Nat) : Prop where
  run : ∀ X, q.In X → ∃ t : TGs, PGs X ts t ∧ ∀ us ds σ vs bd F R H, us.length = is.length → SM q.g.K σ vs bd F R H → DpAll q.g.K F us ds → ∀ Φ : L2.St → Hp → Prop, (∀ vs', L2.wipe vs' js = L2.wipe vs js → SM q.g.K (σ.sets is ds) vs' bd F R H → Φ vs' H) → t us vs H Φ
theorem eg_nil {js : List Nat} : EvGs q [] [] js := ⟨fun X hX => ⟨_, pgs_nil, fun us ds σ vs bd F R H hl s hd Φ f => by
  cases us with
  | nil =>
    cases hd
    exact ⟨rfl, f vs rfl s⟩
  | cons _ _ => cases hl⟩⟩
theorem eg_cons {ts : List Expr} {is js : List Nat} (h : Ss q x i) (hr : EvGs q ts is js) (hj : i ∈ js) (hs : ∀ env, (assignEach (.Name x pos :: ts) env).map (·.2) = assign (.Name x pos) env :: (assignEach ts env).map (·.2) := by intro _; rfl) : EvGs q (.Name x pos :: ts) (i :: is) js := ⟨fun X hX => by
  obtain ⟨t, ht, w⟩ := hr.run X hX
  refine ⟨_, pgs_cons (pg_name hX.nd (by rw [hX.N]; exact h.ix) (by rw [hX.sc]; exact h.loc) (h.hf hX)) ht (hs _), fun us ds σ vs bd F R H hl s hd Φ f => ?_⟩
  cases us with
  | nil => cases hl
  | cons u us =>
    cases hd with
    | cons h1 h2 =>
      refine ⟨u, us, rfl, ?_⟩
      exact w us _ (σ.set i (.dat _)) _ bd F R H (by simpa using hl) (SM.store s.ln (s.sim.pushD h1)) h2 Φ fun vs' e => f vs' (e.trans (wipe_set hj))⟩
theorem es_tup {ts : List Expr} {is js : List Nat} {k : Nat} (he : EvD q e σ (.tuple ds) σ1) (hg : EvGs q ts is js) (hl : ds.length = is.length) (hn : ∀ env, (assignEach ts env).length = is.length := by intro _; rfl) (hst : ∀ env, (assignEach ts env).findIdx? (·.1) = none := by intro _; rfl)
    (hs : ∀ env, swapsWithSole [.Tuple ts k p2] e pos.line env = pure false := by intro _; rfl) (hw : ∀ env, env.scope = q.sc → swappedStores [.Tuple ts k p2] e env = pure none := by intro _ _; rfl)
    (h1 : ∀ env, (assignEach [.Tuple ts k p2] env).map (·.2) = [assign (.Tuple ts k p2) env] := by intro _; rfl) : EvS q (.Assign [.Tuple ts k p2] e pos) σ (.nx (σ1.sets is ds)) := fun X hX vs bd F R H s D f => by
  obtain ⟨t, ht, w⟩ := hg.run X hX
  refine wS_of (ps_asg (pE e) (pg_tup (n := is.length) hX.calm ht (hn _) (hst _)) (hs _) (hw _ hX.sc) (h1 _)) (he X hX vs bd F R H s _ fun v F' H' ex s' hd => ?_)
  cases hd with
  | tup z1 z2 =>
    exact ⟨_, _, rfl, by rw [hX.K]; exact Evl.ex_t s'.sim.fh z1, by rw [z2.length]; exact hl, w _ _ _ _ bd F' R H' (by rw [z2.length]; exact hl) s' z2 _ fun vs' _ s2 => f vs' F' H' ex s2⟩
/-- a, b = x, y: the names stored from the right -/
theorem es_par {pt : Pos} {px py : Pos} {kt k2 : Nat} {pt2 : Pos} (hx : Ss q x i) (hy : Ss q y j) (hij : i ≠ j) (lx : q.sc.names.lookup x = some .local) (ly : q.sc.names.lookup y = some .local) (he : EvA q [a, b] σ [d1, d2] σ1)
    (hw : ∀ env, env.scope = q.sc → swappedStores [.Tuple [.Name x px, .Name y py] kt pt] (.Tuple [a, b] k2 pt2) env = pure (some [x, y])) (hs : ∀ env, swapsWithSole [.Tuple [.Name x px, .Name y py] kt pt] (.Tuple [a, b] k2 pt2) pos.line env = pure false := by intro _; rfl) :
    EvS q (.Assign [.Tuple [.Name x px, .Name y py] kt pt] (.Tuple [a, b] k2 pt2) pos) σ (.nx ((σ1.set i (.dat d1)).set j (.dat d2))) := fun X hX vs bd F R H s D f => by
  refine wS_of (ps_par hX.calm hX.nd (by rw [hX.N]; exact hx.ix) (by rw [hX.N]; exact hy.ix) hij (by rw [hX.sc]; exact lx) (by rw [hX.sc]; exact ly) (pA _) (hw _ hX.sc) (hs _)) (he X hX vs bd F R H s _ fun us F' H' ex s' hd => ?_)
  cases hd with
  | cons h1 hd =>
    cases hd with
    | cons h2 hd =>
      cases hd
      refine ⟨_, _, rfl, ?_⟩
      have s2 := SM.store (i := i) s'.ln (s'.sim.pushD h1)
      exact f _ F' H' ex (SM.store s2.ln (s2.sim.pushD h2))

/-! ### append, pop -/
theorem es_append {m : Pos} (h : Sl q x i) {c0 : Cell} (h0 : σ.cellAt i = some c0) (he : EvD q e σ d σ1) (hl : σ1.cellAt i = some (.lst ds)) (hz : ds.length < sizeLine) (hs : ∀ env, starEach [e] env = (false, eval e env) :: starEach [] env := by intro _; rfl) (hf : ∀ env, ((backTo pos (starEach (e :: []) env)).all (fun x => !x.1) && (backToKw pos (keywordEach [] env)).all (fun x => x.1.isSome) && decide ((e :: []).length + ([] : List Keyword).length + (if ([] : List Keyword).isEmpty then 0 else 1) < 30)) = true := by intro _; rfl) (hln : (m.endLine == pos.line) = true := by rfl) :
    EvD q (.Call (.Attribute (.Name x p) "append" m) [e] [] pos) σ .none (σ1.put i (.lst (ds ++ [d]))) := fun X hX vs bd F R H s Φ f => by
  obtain ⟨p0, e0, c1, f1, r1⟩ := s.cell_at h0
  refine wE_of (pe_bm PySem.F.plainAttrs_list PySem.F.slot_list_append PySem.F.type_list_append mt_append (h.pe hX) (pa_cons (pE e) pa_nil (hs _)) rfl (hf _) hln (hs _) rfl) ?_
  have c1' := c1
  cases c0 with
  | lst es0 =>
    obtain ⟨xs0, a0, b0⟩ := c1
    refine ⟨_, e0, .inl ⟨rfl, _, SqL.of a0⟩, he X hX vs bd F R H s _ fun v F1 H1 e1 s1 h1 => ?_⟩
    obtain ⟨p1, e2, ⟨xs, a1, b1⟩, f2, r2⟩ := s1.cell_at hl
    rw [e0] at e2
    cases e2
    exact ⟨p0, xs, v, rfl, rfl, a1, by rw [b1.length]; exact hz, f _ F1 _ e1 (s1.mut hl e0 (b1.append (.cons h1 .nil))) .non⟩
theorem ev_pop {m : Pos} (h : Sl q x i) (hl : σ.cellAt i = some (.lst ds)) (hd : ds[ds.length - 1]? = some d) (hln : (m.endLine == pos.line) = true := by rfl) : EvD q (.Call (.Attribute (.Name x p) "pop" m) [] [] pos) σ d (σ.put i (.lst ds.dropLast)) := fun X hX vs bd F R H s Φ f => by
  obtain ⟨p0, e0, ⟨xs, a1, b1⟩, f1, r1⟩ := s.cell_at hl
  refine wE_of (pe_bm0 PySem.F.plainAttrs_list PySem.F.slot_list_pop PySem.F.type_list_pop mt_pop (h.pe hX) rfl hln) ?_
  obtain ⟨v, hv, hw⟩ := b1.get hd
  refine ⟨_, e0, .inl ⟨rfl, _, SqL.of a1⟩, p0, xs, v, rfl, rfl, a1, by rw [b1.length]; exact hv, f v F _ (Ex.refl _) (s.mut hl e0 b1.dropLast) hw⟩
end
end TR

set_option Elab.async false
set_option linter.all false
set_option maxRecDepth 100000
set_option maxHeartbeats 1000000
namespace TR
open PySem PySem.Spec L2
open Evl (Ex)

/-! ### what is walked -/
/-- behind iter stands an iterator of the data ds -/
structure ItOk (K : PySem.W.Frag) (J : It) (ds : List PyData) (F' : Hp) : Prop where
  ex : ∃ (G : Hp → Prop) (Y : Nat → Hp → V → Hp → Prop), Walk J ds.length G Y ∧ (∀ H, Ex F' H → G H) ∧
    ∀ k x F2 H2 H3, k < ds.length → Ex F' F2 → Ex F2 H2 → Y k H2 x H3 → ∃ d, ds[k]? = some d ∧ ∀ L bd bs R, Sim K L bd bs F2 R H2 → ∃ F3, Ex F2 F3 ∧ Ex H2 H3 ∧ Sim K L bd bs F3 R H3 ∧ Dp K F3 x d
structure EvI (q : Q) (tg iter : Expr) (σ : S) (ds : List PyData) (σ' : S) : Prop where
  run : ∀ X, q.In X → ∃ wi : TI, PI X tg iter wi ∧ ∀ vs bd F R H, SM q.g.K σ vs bd F R H → ∀ Φ : It → Hp → Prop, (∀ J F' H', Ex F F' → SM q.g.K σ' vs bd F' R H' → ItOk q.g.K J ds F' → Φ J H') → wi vs H Φ
section
variable {q : Q} {e a b c tg iter elt : Expr} {es : List Expr} {st : Stmt} {sts body : List Stmt} {σ σ1 σ2 σ3 σ' : S} {d d1 d2 : PyData} {ds out : List PyData} {pos p2 p : Pos} {x y : Str} {i j : Nat} {o : Out}
theorem ei_list (h : EvD q e σ (.list ds) σ') : EvI q tg e σ ds σ' := ⟨fun X hX => ⟨_, pi_list (pE e), fun vs bd F R H s Φ f => h X hX vs bd F R H s _ fun v F' H' ex s' hd => by
  cases hd with
  | @lst al xl _ z1 z2 =>
    refine ⟨_, rfl, ⟨_, by rw [hX.K]; exact Evl.ex_l s'.sim.fh z1⟩, f _ F' H' ex s' ⟨fun H2 => SqL q.g.K H2 al xl, YAt xl, ?_, fun H2 e2 => Evl.ex_l e2 z1, fun k x F2 H2 H3 hk e2 e3 hy => ?_⟩⟩
    · rw [hX.K, ← z2.length]; exact walk_list
    · obtain ⟨rfl, hx⟩ := hy
      obtain ⟨d, h1, h2⟩ := z2.getV hx
      exact ⟨d, h1, fun L bd bs R s2 => ⟨F2, Ex.refl _, Ex.refl _, s2, h2.mono e2⟩⟩⟩⟩
theorem ei_tup (h : EvD q e σ (.tuple ds) σ') : EvI q tg e σ ds σ' := ⟨fun X hX => ⟨_, pi_tup (pE e), fun vs bd F R H s Φ f => h X hX vs bd F R H s _ fun v F' H' ex s' hd => by
  cases hd with
  | @tup al xl _ z1 z2 =>
    refine ⟨_, rfl, ⟨_, by rw [hX.K]; exact Evl.ex_t s'.sim.fh z1⟩, f _ F' H' ex s' ⟨fun H2 => SqT q.g.K H2 al xl, YAt xl, ?_, fun H2 e2 => Evl.ex_t e2 z1, fun k x F2 H2 H3 hk e2 e3 hy => ?_⟩⟩
    · rw [hX.K, ← z2.length]; exact walk_tup
    · obtain ⟨rfl, hx⟩ := hy
      obtain ⟨d, h1, h2⟩ := z2.getV hx
      exact ⟨d, h1, fun L bd bs R s2 => ⟨F2, Ex.refl _, Ex.refl _, s2, h2.mono e2⟩⟩⟩⟩
def signs (y : Str) : List PyData := y.cps.toList.map fun c => .str ⟨#[c]⟩
theorem ei_str {y : Str} (h : EvD q e σ (.str y) σ') : EvI q tg e σ (signs y) σ' := ⟨fun X hX => ⟨_, pi_str (pE e), fun vs bd F R H s Φ f => h X hX vs bd F R H s _ fun v F' H' ex s' hd => by
  cases hd
  refine ⟨y, rfl, f _ F' H' ex s' ⟨fun _ => True, fun i H v H' => H' = H ∧ ∃ c, y.cps[i]? = some c ∧ v = .str ⟨#[c]⟩, ?_, fun H2 e2 => trivial, fun k x F2 H2 H3 hk e2 e3 hy => ?_⟩⟩
  · have e1 : (signs y).length = y.cps.size := by simp [signs]
    rw [e1]; exact walk_str
  · obtain ⟨rfl, c, hc, rfl⟩ := hy
    exact ⟨.str ⟨#[c]⟩, by simp [signs, hc], fun L bd bs R s2 => ⟨F2, Ex.refl _, Ex.refl _, s2, .str _⟩⟩⟩⟩
/-- lo, lo + 1, .. (n of them) -/
def ranged (lo : Int) (n : Nat) : List PyData := (List.range n).map fun (k : Nat) => .int (lo + (k : Int))
theorem range_ok {K : PySem.W.Frag} {lo : Int} {n : Nat} {F : Hp} : ItOk K (Itr lo n) (ranged lo n) F := by
  have e1 : (ranged lo n).length = n := by simp [ranged]
  refine ⟨fun _ => True, YFn fun i => .int (lo + i), by rw [e1]; exact walk_range, fun H2 e2 => trivial, fun k x F2 H2 H3 hk e2 e3 hy => ?_⟩
  rw [e1] at hk
  obtain ⟨rfl, rfl⟩ := hy
  exact ⟨.int (lo + (k : Int)), by simp [ranged, hk], fun L bd bs R s2 => ⟨F2, Ex.refl _, Ex.refl _, s2, .int _⟩⟩
theorem ei_range1 {n : Int} (B : Bi q "range" (.type "range")) (h : EvD q a σ (.int n) σ') (h1 : -(2 ^ 62) ≤ n) (h2 : n < 2 ^ 62) (hs : ∀ env, starEach [a] env = [(false, eval a env)] := by intro _; rfl) : EvI q tg (.Call (.Name "range" p) [a] [] pos) σ (ranged 0 n.toNat) σ' := ⟨fun X hX =>
  ⟨_, pi_range1 (B.gl.gl hX) (by rw [hX.mg]; exact B.mg) (pa_cons (pE a) pa_nil (hs _)) (hs _), fun vs bd F R H s Φ f => h X hX vs bd F R H s _ fun v F' H' ex s' hd => by
    cases hd
    exact ⟨n, rfl, h1, h2, f _ F' H' ex s' range_ok⟩⟩⟩
theorem ei_range2 {lo n : Int} (B : Bi q "range" (.type "range")) (h : EvD q a σ (.int lo) σ1) (h' : EvD q b σ1 (.int n) σ') (h1 : -(2 ^ 62) ≤ lo ∧ lo < 2 ^ 62 ∧ -(2 ^ 62) ≤ n ∧ n < 2 ^ 62) (hs : ∀ env, starEach [a, b] env = [(false, eval a env), (false, eval b env)] := by intro _; rfl)
    (hs2 : ∀ env, starEach [b] env = [(false, eval b env)] := by intro _; rfl) : EvI q tg (.Call (.Name "range" p) [a, b] [] pos) σ (ranged lo (n - lo).toNat) σ' := ⟨fun X hX =>
  ⟨_, pi_range2 (B.gl.gl hX) (by rw [hX.mg]; exact B.mg) (pa_cons (pE a) (pa_cons (pE b) pa_nil (hs2 _)) (by rw [hs, hs2])) (hs _) (hs2 _), fun vs bd F R H s Φ f => h X hX vs bd F R H s _ fun v F' H' ex s' hd => h' X hX vs bd F' R H' s' _ fun u F2 H2 e2 s2 hd2 => by
    cases hd
    cases hd2
    exact ⟨lo, n, rfl, h1, f _ F2 H2 (ex.trans e2) s2 range_ok⟩⟩⟩

/-! ### targets -/
/-- the target takes data that is ok, by f -/
structure EvG (q : Q) (tg : Expr) (f : S → PyData → S) (ok : PyData → Prop) (js : List Nat) : Prop where
  run : ∀ X, q.In X → ∃ g : TG, PG X tg g ∧ ∀ v d σ vs bd F R H, ok d → SM q.g.K σ vs bd F R H → Dp q.g.K F v d → ∀ Φ : L2.St → Hp → Prop, (∀ vs', L2.wipe vs' js = L2.wipe vs js → SM q.g.K (f σ d) vs' bd F R H → Φ vs' H) → g v vs H Φ
theorem eg_name {js : List Nat} (h : Ss q x i) (hj : i ∈ js) : EvG q (.Name x pos) (fun σ d => σ.set i (.dat d)) (fun _ => True) js := ⟨fun X hX =>
  ⟨_, pg_name hX.nd (by rw [hX.N]; exact h.ix) (by rw [hX.sc]; exact h.loc) (h.hf hX), fun v d σ vs bd F R H _ s hd Φ f => f _ (wipe_set hj) (SM.store s.ln (s.sim.pushD hd))⟩⟩
theorem eg_tup {ts : List Expr} {is js : List Nat} {k : Nat} (hg : EvGs q ts is js) (hn : ∀ env, (assignEach ts env).length = is.length := by intro _; rfl) (hst : ∀ env, (assignEach ts env).findIdx? (·.1) = none := by intro _; rfl) :
    EvG q (.Tuple ts k pos) (fun σ d => match d with | .tuple ds => σ.sets is ds | _ => σ) (fun d => ∃ ds, d = .tuple ds ∧ ds.length = is.length) js := ⟨fun X hX => by
  obtain ⟨t, ht, w⟩ := hg.run X hX
  refine ⟨_, pg_tup (n := is.length) hX.calm ht (hn _) (hst _), fun v d σ vs bd F R H hk s hd Φ f => ?_⟩
  obtain ⟨ds, rfl, hl⟩ := hk
  cases hd with
  | tup z1 z2 => exact ⟨_, _, rfl, by rw [hX.K]; exact Evl.ex_t s.sim.fh z1, by rw [z2.length]; exact hl, w _ _ _ _ bd F R H (by rw [z2.length]; exact hl) s z2 _ f⟩⟩

/-! ### for -/
def Step (q : Q) (body : List Stmt) (σ : S) (σ' : S) : Prop := EvB q body σ (.nx σ') ∨ EvB q body σ (.ct σ')
theorem Step.go {D : Ends} (h : Step q body σ σ') {X : Cx} (hX : q.In X) {vs : L2.St} {bd : List Addr} {F R H : Hp} (s : SM q.g.K σ vs bd F R H) (hn : ∀ vs F' H, Ex F F' → SM q.g.K σ' vs bd F' R H → D.nx vs H)
    (hc : ∀ vs F' H, Ex F F' → SM q.g.K σ' vs bd F' R H → D.ct vs H) : wSs X body D vs H := by
  rcases h with h | h
  · exact h X hX vs bd F R H s _ hn
  · exact h X hX vs bd F R H s _ hc
theorem lt_of_get {α : Type} {l : List α} {m : Nat} {x : α} (h : l[m]? = some x) : m < l.length := (List.getElem?_eq_some_iff.mp h).1
/-- what a loop comes to: all turns, or it is left in the turn m -/
inductive LoopOk (q : Q) (body : List Stmt) (f : S → PyData → S) (ds : List PyData) (s : Nat → S) : Out → Prop
  | all (h : ∀ k d, ds[k]? = some d → Step q body (f (s k) d) (s (k + 1))) : LoopOk q body f ds s (.nx (s ds.length))
  | brk (m : Nat) (d : PyData) (σ' : S) (h : ∀ k d, k < m → ds[k]? = some d → Step q body (f (s k) d) (s (k + 1))) (hd : ds[m]? = some d) (hb : EvB q body (f (s m) d) (.bk σ')) : LoopOk q body f ds s (.nx σ')
  | out (m : Nat) (d : PyData) (o : Out) (h : ∀ k d, k < m → ds[k]? = some d → Step q body (f (s k) d) (s (k + 1))) (hd : ds[m]? = some d) (hb : EvB q body (f (s m) d) o) (ho : match o with | .rd _ _ => True | .ro _ _ => True | _ => False) : LoopOk q body f ds s o
theorem es_for {f : S → PyData → S} {ok : PyData → Prop} {js : List Nat} {s : Nat → S} (hi : EvI q tg iter σ ds (s 0)) (hg : EvG q tg f ok js) (hok : ∀ d ∈ ds, ok d) (h : LoopOk q body f ds s o) (hd : q.d = true := by rfl) (hs : ∀ env x, foldedSetIterable iter env x = pure x := by intro _ _; rfl) :
    EvS q (.For tg iter body [] pos) σ o := fun X hX vs bd F R H sm D fo => by
  obtain ⟨wi, pi, wr⟩ := hi.run X hX
  obtain ⟨g, pg, wg⟩ := hg.run X hX
  refine wS_of (ps_for (hX.pass hd) hX.calm pi pg (pSs body) (hs _)) (wr vs bd F R H sm _ fun J F1 H1 e1 s1 it => ?_)
  obtain ⟨G, Y, wk, hG, hY⟩ := it.ex
  -- m: the turns that go on
  have key : ∀ m : Nat, (∀ k d, k < m → ds[k]? = some d → Step q body (f (s k) d) (s (k + 1))) → (ds.length ≤ m → o = .nx (s ds.length)) →
      (∀ d, ds[m]? = some d → ∀ vs bd F R H, SM q.g.K (f (s m) d) vs bd F R H → ∀ D : Ends, o.ok q.g.K bd F R D → ∀ N, wSs X body { D with nx := N, ct := N, bk := D.nx } vs H) →
      ∃ W : Nat → Nat → L2.St → Hp → Prop, (∃ m, W 0 m vs H1) ∧ ∀ i m σ H, W i m σ H →
      (J.stop i H ∧ D.nx σ H) ∨ (J.go i H ∧ ∃ N : L2.St → Hp → Prop, (∀ σ' H', N σ' H' → ∃ m', m' < m ∧ W (i + 1) m' σ' H') ∧ ∀ x H', J.yld i H x H' → g x σ H' fun σ2 H2 => wSs X body { D with nx := N, ct := N, bk := D.nx } σ2 H2) := fun m h1 h2 h3 => by
    refine for_it wk (fun k vs' H' => k ≤ m ∧ ∃ F', Ex F1 F' ∧ SM q.g.K (s k) vs' bd F' R H') ⟨Nat.zero_le _, F1, Ex.refl _, s1⟩ (fun k σ' H' _ ⟨_, F', e', s'⟩ => hG H' (e'.trans s'.sim.fh)) (fun k x σ' H' H2 hk ⟨hm, F', e', s'⟩ hy => ?_) (fun σ' H' ⟨hm, F', e', s'⟩ => ?_)
    · obtain ⟨d, hd', lift⟩ := hY k x F' H' H2 hk e' s'.sim.fh hy
      obtain ⟨F2, e2, e3, s2, hdp⟩ := lift _ _ _ _ s'.sim
      refine wg x d _ σ' bd F2 R H2 (hok d (List.mem_of_getElem? hd')) ⟨s'.ln, s2⟩ hdp _ fun vs2 _ s3 => ?_
      by_cases z : k < m
      · exact (h1 k d z hd').go hX s3 (fun vs3 F3 H3 e3 s3 => ⟨by omega, F3, (e'.trans e2).trans e3, s3⟩) (fun vs3 F3 H3 e3 s3 => ⟨by omega, F3, (e'.trans e2).trans e3, s3⟩)
      · have z' : k = m := by omega
        subst z'
        exact h3 d hd' vs2 bd F2 R H2 s3 D (fo.mono ((e1.trans e').trans e2)) _
    · have eo := h2 hm
      subst eo
      exact fo σ' F' H' (e1.trans e') s'
  cases h with
  | all h => exact key ds.length (fun k d _ hk => h k d hk) (fun _ => rfl) (fun d hd' => absurd (lt_of_get hd') (Nat.lt_irrefl _))
  | brk m d σ' h hd' hb =>
    refine key m h (fun hl => absurd (lt_of_get hd') (Nat.not_lt.mpr hl)) (fun d2 hd2 vs bd F R H s3 D fo N => ?_)
    rw [hd'] at hd2
    cases hd2
    exact hb X hX vs bd F R H s3 _ fo
  | out m d o h hd' hb ho =>
    refine key m h (fun hl => absurd (lt_of_get hd') (Nat.not_lt.mpr hl)) (fun d2 hd2 vs bd F R H s3 D fo N => ?_)
    rw [hd'] at hd2
    cases hd2
    cases o with
    | rd d σ => exact hb X hX vs bd F R H s3 _ fo
    | ro d σ => exact hb X hX vs bd F R H s3 _ fo
    | _ => exact ho.elim
/-! ### while -/
theorem es_while (m : Nat) (s t : Nat → S) (h0 : σ = s 0) (h : ∀ k, k < m → EvT q c (s k) true (t k) ∧ Step q body (t k) (s (k + 1))) (h2 : EvT q c (s m) false (t m)) (hd : q.d = true := by rfl) :
    EvS q (.While c body [] pos) σ (.nx (t m)) := fun X hX vs bd F R H sm D fo => by
  subst h0
  refine wS_of (ps_while (hX.pass hd) (pT c) (pSs body)) ⟨fun j vs' H' => ∃ k F', k + j = m ∧ Ex F F' ∧ SM q.g.K (s k) vs' bd F' R H', ⟨m, 0, F, Nat.zero_add m, Ex.refl _, sm⟩, ?_⟩
  rintro j vs' H' ⟨k, F', hk, e', s'⟩
  by_cases z : k < m
  · obtain ⟨h3, h4⟩ := h k z
    refine h3 X hX vs' bd F' R H' s' _ fun F2 H2 e2 s2 => ?_
    show (if true = true then _ else _)
    rw [if_pos rfl]
    refine ⟨fun vs' H' => ∃ j', j' < j ∧ ∃ k F', k + j' = m ∧ Ex F F' ∧ SM q.g.K (s k) vs' bd F' R H', fun _ _ n => n, ?_⟩
    exact h4.go hX s2 (fun vs3 F3 H3 e3 s3 => ⟨j - 1, by omega, k + 1, F3, by omega, (e'.trans e2).trans e3, s3⟩) (fun vs3 F3 H3 e3 s3 => ⟨j - 1, by omega, k + 1, F3, by omega, (e'.trans e2).trans e3, s3⟩)
  · have z' : k = m := by omega
    subst z'
    refine h2 X hX vs' bd F' R H' s' _ fun F2 H2 e2 s2 => ?_
    show (if false = true then _ else _)
    rw [if_neg (by decide)]
    exact fo vs' F2 H2 (e'.trans e2) s2

/-! ### comprehensions -/
def wipeW (ws : List W) : List Nat → List W
  | [] => ws
  | v :: vs => (wipeW ws vs).set v .un
def S.wipe (σ : S) (js : List Nat) : S := ⟨wipeW σ.ws js, σ.bs⟩
/-- the names of the block's scope as they are seen in it -/
def relB (sc scope : Scope) : Scope := relabel scope { scope := sc, locals := 0, globals := 0, cells := [], qual := "", func := none, code := .none, frame := none, builtins := 0 }
def Q.blk (q : Q) (scope : Scope) : Q := { q with sc := relB q.sc scope, d := false, fx := fun x => scope.names.lookup x == some .cell }
theorem Q.In.blk {X : Cx} (h : q.In X) (s : Shared) (H : Hp) (scope : Scope) (C : Addr) (cl : List (Str × Addr)) (fp : List Addr) : (q.blk scope).In (X.blk s H scope (compEnvC scope cl C X.env) fp) where
  prog := h.prog
  w := h.w
  K := h.K
  mg := h.mg
  base := h.base
  N := h.N
  nd := h.nd
  sc := by
    show relabel scope X.env = relB q.sc scope
    unfold relB relabel
    rw [← h.sc] <;> rfl
  calm := h.calm
  room := h.room
  gu := h.gu
  fn := fun x z => z
  pass := fun z => Bool.noConfusion z
  stk := fun z => Bool.noConfusion z
end
end TR

set_option Elab.async false
set_option linter.all false
set_option maxRecDepth 100000
set_option maxHeartbeats 1000000
namespace TR
open PySem PySem.Spec L2
open Evl (Ex)

/-! ### slots forgotten in a block -/
def plainW : W → Prop
  | .un => True
  | .dat _ => True
  | _ => False
section
variable {K : PySem.W.Frag} {σ σ0 : S} {vs : L2.St} {bd : List Addr} {F F0 F' R R0 H H0 H' : Hp} {L : List (W × Option V)} {bs : List Cell} {D : Addr} {o o' : HO}
theorem own_plain {w : W} {v : Option V} (h : plainW w) : own1 (w, v) = none := by
  cases w with
  | un => exact own_un
  | dat d => exact own_dat
  | _ => exact h.elim
theorem wipeW_len : ∀ (js : List Nat) (ws : List W), (wipeW ws js).length = ws.length
  | [], _ => rfl
  | _ :: js, ws => by show ((wipeW ws js).set _ _).length = _; rw [List.length_set, wipeW_len js ws]
theorem wipe_idem : ∀ (js : List Nat) (vs : L2.St), L2.wipe (L2.wipe vs js) js = L2.wipe vs js := by
  have key : ∀ (js ks : List Nat) (vs : L2.St), (∀ k ∈ ks, k ∈ js) → L2.wipe (L2.wipe vs ks) js = L2.wipe vs js := by
    intro js ks
    induction ks with
    | nil => intro vs _; rfl
    | cons k ks ih =>
      intro vs h
      show L2.wipe ((L2.wipe vs ks).set k none) js = _
      rw [wipe_set (h k List.mem_cons_self), ih vs fun z hz => h z (List.mem_cons_of_mem _ hz)]
  exact fun js vs => key js js vs fun _ h => h
theorem SM.wipe (s : SM K σ vs bd F R H) : ∀ js : List Nat, SM K (σ.wipe js) (L2.wipe vs js) bd F R H
  | [] => s
  | j :: js => by
    have ih := SM.wipe s js
    exact SM.store (w := .un) (o := none) ih.ln (ih.sim.push own_un trivial)
theorem filterMap_set {q : W × Option V} : ∀ {L : List (W × Option V)} {i : Nat}, (∀ q0, L[i]? = some q0 → own1 q0 = none) → own1 q = none → (L.set i q).filterMap own1 = L.filterMap own1
  | [], i, _, _ => by simp
  | a :: L, 0, h, hq => by
    have ha := h a (by simp)
    simp [List.filterMap_cons, ha, hq]
  | a :: L, i + 1, h, hq => by
    have ih := filterMap_set (q := q) (L := L) (i := i) (fun q0 z => h q0 (by simpa using z)) hq
    rw [List.set_cons_succ, List.filterMap_cons, List.filterMap_cons, ih]
theorem wiped_own : ∀ (js : List Nat) (ws : List W) (vs : L2.St), (∀ j ∈ js, ∀ w, ws[j]? = some w → plainW w) → ((wipeW ws js).zip (L2.wipe vs js)).filterMap own1 = (ws.zip vs).filterMap own1
  | [], _, _, _ => rfl
  | j :: js, ws, vs, h => by
    show (((wipeW ws js).set j .un).zip ((L2.wipe vs js).set j none)).filterMap own1 = _
    rw [zip_set, filterMap_set (fun q0 z => ?_) own_un]
    · exact wiped_own js ws vs fun k hk => h k (List.mem_cons_of_mem _ hk)
    · rw [List.getElem?_zip_eq_some] at z
      obtain ⟨z1, z2⟩ := z
      have key : ∀ (ks : List Nat), (wipeW ws ks)[j]? = some q0.1 → plainW q0.1 := by
        intro ks
        induction ks with
        | nil => exact fun e => h j List.mem_cons_self _ e
        | cons k ks ih =>
          intro e
          have e' : ((wipeW ws ks).set k .un)[j]? = some q0.1 := e
          by_cases hkj : k = j
          · subst hkj
            by_cases hl : k < (wipeW ws ks).length
            · rw [List.getElem?_set_self hl] at e'
              have e2 := Option.some.inj e'
              rw [← e2]
              trivial
            · rw [List.set_eq_of_length_le (by omega)] at e'
              exact ih e'
          · rw [List.getElem?_set_ne hkj] at e'
            exact ih e'
      obtain ⟨q1, q2⟩ := q0
      exact own_plain (key js z1)
theorem wiped_ne : ∀ {js : List Nat} {i : Nat} (ws : List W) (vs : L2.St), i ∉ js → (wipeW ws js)[i]? = ws[i]? ∧ (L2.wipe vs js)[i]? = vs[i]?
  | [], _, _, _, _ => ⟨rfl, rfl⟩
  | j :: js, i, ws, vs, h => by
    have hj : j ≠ i := fun z => h (by rw [z]; exact List.mem_cons_self)
    obtain ⟨a, b⟩ := wiped_ne (js := js) (i := i) ws vs fun z => h (List.mem_cons_of_mem _ z)
    refine ⟨?_, ?_⟩
    · show ((wipeW ws js).set j .un)[i]? = _
      rw [List.getElem?_set_ne hj, a]
    · show ((L2.wipe vs js).set j none)[i]? = _
      rw [List.getElem?_set_ne hj, b]
/-- what was forgotten was plain data: it is known again -/
theorem SM.unwipe {js : List Nat} (s0 : SM K σ0 vs bd F0 R0 H0) (s : SM K (σ.wipe js) (L2.wipe vs js) bd F R H) (e : Ex F0 F) (hk : ∀ j ∈ js, ∀ w, σ.ws[j]? = some w → σ0.ws[j]? = some w ∧ plainW w) (hl : vs.length = σ.ws.length) : SM K σ vs bd F R H := by
  have eo := wiped_own js σ.ws vs fun j hj w hw => (hk j hj w hw).2
  have eo' : ((σ.wipe js).ws.zip (L2.wipe vs js)).filterMap own1 = (σ.ws.zip vs).filterMap own1 := eo
  refine ⟨hl, ⟨s.sim.fh, s.sim.rh, s.sim.fr, s.sim.len, fun q hq => ?_, s.sim.bo, by rw [← eo']; exact s.sim.nd, fun p hp => s.sim.out p (by rw [eo']; exact hp)⟩⟩
  obtain ⟨i, hi⟩ := List.getElem?_of_mem hq
  rw [List.getElem?_zip_eq_some] at hi
  obtain ⟨h1, h2⟩ := hi
  by_cases hj : i ∈ js
  · obtain ⟨g1, g2⟩ := hk i hj q.1 h1
    obtain ⟨o, e1, _, ok⟩ := s0.at_ g1
    rw [h2] at e1
    cases e1
    obtain ⟨w, v⟩ := q
    dsimp only at g1 g2 ok h1 h2 ⊢
    cases w with
    | un => trivial
    | dat d =>
      obtain ⟨v', a, b⟩ := ok
      exact ⟨v', a, b.mono e⟩
    | _ => exact g2.elim
  · obtain ⟨a, b⟩ := wiped_ne (js := js) σ.ws vs hj
    have hm : (q.1, q.2) ∈ (σ.wipe js).ws.zip (L2.wipe vs js) := List.mem_of_getElem? (zip_at (i := i) (by show (wipeW σ.ws js)[i]? = _; rw [a]; exact h1) (by rw [b]; exact h2))
    exact s.sim.ok _ hm
/-- an owned list is lent to what stays -/
theorem Sim.toR {ds : List PyData} {acc : List V} (s : Sim K ((.own (.lst ds), some (.ref D)) :: L) bd bs F R H) (h : H D = some (.lst acc)) : Sim K L bd bs F (upd R D (.lst acc)) H := by
  have e : ((W.own (.lst ds), some (V.ref D)) :: L).filterMap own1 = D :: L.filterMap own1 := rfl
  obtain ⟨fd, rd⟩ := s.out D (by rw [e]; exact List.mem_append_right _ List.mem_cons_self)
  have s1 := s.pop
  have nd0 := s.nd
  rw [e] at nd0
  have nd := List.nodup_append.mp nd0
  refine ⟨s1.fh, fun a u z => ?_, fun a u z => ?_, s1.len, s1.ok, s1.bo, s1.nd, fun p hp => ?_⟩
  · by_cases q : a = D
    · subst q; rw [upd_same] at z; cases z; exact h
    · rw [upd_ne q] at z; exact s.rh a u z
  · by_cases q : a = D
    · subst q; exact fd
    · rw [upd_ne q] at z; exact s.fr a u z
  · have ne : p ≠ D := fun q => by
      subst q
      rcases List.mem_append.mp hp with hp | hp
      · exact nd.2.2 p hp p List.mem_cons_self rfl
      · exact (List.nodup_cons.mp nd.2.1).1 hp
    rw [upd_ne ne]
    exact s1.out p hp
theorem Sim.neR (s : Sim K L bd bs F (upd R D o) H) : F D = none ∧ H D = some o ∧ ∀ p ∈ bd ++ L.filterMap own1, p ≠ D := by
  refine ⟨s.fr D o upd_same, s.rh D o upd_same, fun p hp q => ?_⟩
  subst q
  have := (s.out p hp).2
  rw [upd_same] at this; cases this
/-- the lent list is changed -/
theorem Sim.reR (s : Sim K L bd bs F (upd R D o) H) : Sim K L bd bs F (upd R D o') (upd H D o') := by
  obtain ⟨fd, hd, ne⟩ := s.neR
  refine ⟨fun a u z => ?_, fun a u z => ?_, fun a u z => ?_, s.len, fun q hq => ?_, fun k p c a b => ?_, s.nd, fun p hp => ?_⟩
  · have q : a ≠ D := fun q => by subst q; rw [fd] at z; cases z
    rw [upd_ne q]; exact s.fh a u z
  · by_cases q : a = D
    · subst q; rw [upd_same] at z ⊢; exact z
    · rw [upd_ne q] at z ⊢
      exact s.rh a u (by rw [upd_ne q]; exact z)
  · by_cases q : a = D
    · subst q; exact fd
    · rw [upd_ne q] at z
      exact s.fr a u (by rw [upd_ne q]; exact z)
  · refine (s.ok q hq).cong (Ex.refl _) fun p hp => upd_ne (ne p (List.mem_append_right _ (List.mem_filterMap.mpr ⟨q, hq, hp⟩)))
  · exact (s.bo k p c a b).cong (Ex.refl _) (upd_ne (ne p (List.mem_append_left _ (List.mem_of_getElem? a))))
  · have n := ne p hp
    have h := s.out p hp
    rw [upd_ne n] at h ⊢
    exact h
theorem Sim.fromR {ds : List PyData} {acc : List V} (s : Sim K L bd bs F (upd R D (.lst acc)) H) (hr : R D = none) (hd : DpAll K F acc ds) : Sim K ((.own (.lst ds), some (.ref D)) :: L) bd bs F R H := by
  obtain ⟨fd, hD, ne⟩ := s.neR
  have e : ((W.own (.lst ds), some (V.ref D)) :: L).filterMap own1 = D :: L.filterMap own1 := rfl
  have up : ∀ a u, R a = some u → a ≠ D := fun a u z q => by subst q; rw [hr] at z; cases z
  have nd := List.nodup_append.mp s.nd
  refine ⟨s.fh, fun a u z => s.rh a u (by rw [upd_ne (up a u z)]; exact z), fun a u z => s.fr a u (by rw [upd_ne (up a u z)]; exact z), s.len, fun q hq => ?_, s.bo, ?_, fun p hp => ?_⟩
  · rcases List.mem_cons.mp hq with rfl | hq
    · exact ⟨D, rfl, acc, hD, hd⟩
    · exact s.ok q hq
  · rw [e, List.nodup_append]
    refine ⟨nd.1, List.nodup_cons.mpr ⟨fun z => ne D (List.mem_append_right _ z) rfl, nd.2.1⟩, fun a ha b hb => ?_⟩
    rcases List.mem_cons.mp hb with rfl | hb
    · exact ne a (List.mem_append_left _ ha)
    · exact nd.2.2 a ha b hb
  · rw [e] at hp
    rcases List.mem_append.mp hp with hp | hp
    · have h := s.out p (List.mem_append_left _ hp)
      rw [upd_ne (ne p (List.mem_append_left _ hp))] at h
      exact h
    · rcases List.mem_cons.mp hp with rfl | hp
      · exact ⟨fd, hr⟩
      · have h := s.out p (List.mem_append_right _ hp)
        rw [upd_ne (ne p (List.mem_append_right _ hp))] at h
        exact h
end

/-! ### [elt for target in iter if ..] -/
/-- a row of tests (of a clause) -/
def EvTs (q : Q) (ifs : List Expr) (σ : S) (b : Bool) (σ' : S) : Prop :=
  ∀ X, q.In X → ∀ vs bd F R H, SM q.g.K σ vs bd F R H → ∀ Φ : Bool → Hp → Prop, (∀ F' H', Ex F F' → SM q.g.K σ' vs bd F' R H' → Φ b H') → ∃ t : TT, PTs X ifs t ∧ t vs H Φ
/-- what the tests are -/
inductive Ifs : List Expr → Prop
  | nil : Ifs []
  | one (c : Expr) : Ifs [c]
def wTs (q : Q) (ifs : List Expr) : TT := match ifs with
  | [] => tYes
  | c :: _ => fun σ H Φ => ∀ X, q.In X → wT X c σ H Φ
theorem pTs {q : Q} {X : Cx} (hX : q.In X) {ifs : List Expr} (h : Ifs ifs) : PTs X ifs (wTs q ifs) := by
  cases h with
  | nil => exact pts_nil
  | one c => exact pts_one ⟨fun pins s σ H Φ I w => w X hX pins s I⟩
/-- one turn: the tests hold and an item comes, or they don't -/
inductive Turn' (q : Q) (elt : Expr) (ifs : List Expr) (js : List Nat) (σ : S) (out : List PyData) (σ' : S) : List PyData → Prop
  | yes (d : PyData) (σ1 σ2 : S) (hc : match ifs with | [] => σ1 = σ | c :: _ => EvT q c σ true σ1) (he : EvD q elt σ1 d σ2) (hs : σ2.wipe js = σ'.wipe js) : Turn' q elt ifs js σ out σ' (out ++ [d])
  | no (σ1 : S) (hc : match ifs with | [] => False | c :: _ => EvT q c σ false σ1) (hs : σ1.wipe js = σ'.wipe js) : Turn' q elt ifs js σ out σ' out
theorem Turn'.or {q : Q} {elt : Expr} {ifs : List Expr} {js : List Nat} {σ σ' : S} {out out' : List PyData} (t : Turn' q elt ifs js σ out σ' out') :
    (∃ d σ1 σ2, (match ifs with | [] => σ1 = σ | c :: _ => EvT q c σ true σ1) ∧ EvD q elt σ1 d σ2 ∧ σ2.wipe js = σ'.wipe js ∧ out' = out ++ [d]) ∨ (∃ σ1, (match ifs with | [] => False | c :: _ => EvT q c σ false σ1) ∧ σ1.wipe js = σ'.wipe js ∧ out' = out) := by
  cases t with
  | yes d σ1 σ2 hc he hs => exact .inl ⟨d, σ1, σ2, hc, he, hs, rfl⟩
  | no σ1 hc hs => exact .inr ⟨σ1, hc, hs, rfl⟩
section
variable {q : Q} {e a b c tg iter elt : Expr} {ifs es : List Expr} {st : Stmt} {σ σ1 σ2 σ3 σ' : S} {d d1 d2 : PyData} {ds : List PyData} {pos p2 p : Pos} {x y : Str} {i j : Nat} {scope : Scope} {own : List (Str × Nat)} {f : S → PyData → S} {okd : PyData → Prop} {s : Nat → S} {out : Nat → List PyData}
structure LcOk (q : Q) (tg iter elt : Expr) (ifs : List Expr) (scope : Scope) (own : List (Str × Nat)) (σ : S) (ds : List PyData) (f : S → PyData → S) (okd : PyData → Prop) (s : Nat → S) (out : Nat → List PyData) : Prop where
  hi : EvI q tg iter σ ds (s 0)
  ok : BlkOk q.N q.sc scope own
  hg : EvG (q.blk scope) tg f okd (own.map (·.2))
  hokd : ∀ d ∈ ds, okd d
  hifs : Ifs ifs
  o0 : out 0 = []
  len : ∀ k, k ≤ ds.length → (s k).ws.length = (s 0).ws.length
  pl : ∀ k, k ≤ ds.length → ∀ j ∈ own.map (·.2), ∀ w, (s k).ws[j]? = some w → (s 0).ws[j]? = some w ∧ plainW w
  turn : ∀ k d, ds[k]? = some d → (out k).length < sizeLine ∧ Turn' (q.blk scope) elt ifs (own.map (·.2)) (f ((s k).wipe (own.map (·.2))) d) (out k) (s (k + 1)) (out (k + 1))
def wEQ (q : Q) (e : Expr) : TE := fun σ H Φ => ∀ X, q.In X → wE X e σ H Φ
theorem pEQ {X : Cx} (hX : q.In X) : PE X e (wEQ q e) := ⟨fun pins s σ H Φ I h => h X hX pins s I⟩
/-- targets must be the same in each block: a name, or names -/
def wGQ (q : Q) (tg : Expr) : TG := fun v σ H Φ => ∀ X, q.In X → wG X tg v σ H Φ
theorem pGQ {X : Cx} (hX : q.In X) : PG X tg (wGQ q tg) := ⟨fun pins s σ H v u Φ I r h => h X hX pins s u I r⟩
theorem LcOk.go (h : LcOk q tg iter elt ifs scope own σ ds f okd s out) {X : Cx} (hX : q.In X) {vs : L2.St} {bd : List Addr} {F R H : Hp} (sm : SM q.g.K σ vs bd F R H) {Φ : VK}
    (fo : ∀ p F' H', Ex F F' → vs.length = (s ds.length).ws.length → Sim q.g.K ((.own (.lst (out ds.length)), some (.ref p)) :: (s ds.length).ws.zip vs) bd (s ds.length).bs F' R H' → Φ (.ref p) H') :
    ∃ wi : TI, PI X tg iter wi ∧ tLc wi (wGQ (q.blk scope) tg) (wTs (q.blk scope) ifs) (wEQ (q.blk scope) elt) (own.map (·.2)) vs H Φ := by
  obtain ⟨wi, pi, wr⟩ := h.hi.run X hX
  refine ⟨wi, pi, wr vs bd F R H sm _ fun J F1 H1 e1 s1 it D hD => ?_⟩
  obtain ⟨G, Y, wk, hG, hY⟩ := it.ex
  have fD := s1.sim.freshF hD
  have rD := s1.sim.freshR hD
  have js : List Nat := own.map (·.2)
  have s1o : Sim q.g.K ((.own (.lst []), some (.ref D)) :: (s 0).ws.zip vs) bd (s 0).bs F1 R (upd H1 D (.lst [])) := s1.sim.newOwn hD .nil
  have s1r : SM q.g.K (s 0) vs bd F1 (upd R D (.lst [])) (upd H1 D (.lst [])) := ⟨s1.ln, s1o.toR upd_same⟩
  refine lc_it wk (fun k H' => ∃ F' acc, Ex F1 F' ∧ DpAll q.g.K F' acc (out k) ∧ SM q.g.K ((s k).wipe (own.map (·.2))) (L2.wipe vs (own.map (·.2))) bd F' (upd R D (.lst acc)) H')
    ⟨F1, [], Ex.refl _, by rw [h.o0]; exact .nil, s1r.wipe _⟩ (fun k H' _ ⟨F', acc, e', _, s'⟩ => hG H' (e'.trans s'.sim.fh)) (fun k x H' H2 hk ⟨F', acc, e', da, s'⟩ hy => ?_) (fun H' ⟨F', acc, e', da, s'⟩ => ?_)
  · obtain ⟨d, hd', lift⟩ := hY k x F' H' H2 hk e' s'.sim.fh hy
    obtain ⟨F2, e2, e3, s2, hdp⟩ := lift _ _ _ _ s'.sim
    intro Y1 hY1
    obtain ⟨g, pg, wg⟩ := h.hg.run Y1 hY1
    refine wG_of pg (wg x d _ _ bd F2 _ H2 (h.hokd d (List.mem_of_getElem? hd')) ⟨s'.ln, s2⟩ hdp _ fun vs2 ew s3 => ⟨by rw [ew, wipe_idem], ?_⟩)
    obtain ⟨hz, tn⟩ := h.turn k d hd'
    have dl : acc.length = (out k).length := da.length
    -- the item
    have item : ∀ (d2 : PyData) (σ1 σ2 : S) (F3 H3 : Hp), Ex F2 F3 → SM q.g.K σ1 vs2 bd F3 (upd R D (.lst acc)) H3 → EvD (q.blk scope) elt σ1 d2 σ2 → σ2.wipe (own.map (·.2)) = (s (k + 1)).wipe (own.map (·.2)) → out (k + 1) = out k ++ [d2] →
        wEQ (q.blk scope) elt vs2 H3 fun y H4 => ∃ acc, H4 D = some (.lst acc) ∧ acc.length < sizeLine ∧ ∃ F' acc', Ex F1 F' ∧ DpAll q.g.K F' acc' (out (k + 1)) ∧ SM q.g.K ((s (k + 1)).wipe (own.map (·.2))) (L2.wipe vs (own.map (·.2))) bd F' (upd R D (.lst acc')) (upd H4 D (.lst (acc ++ [y]))) := by
      intro d2 σ1 σ2 F3 H3 e3 s4 he hs ho Y2 hY2
      refine he Y2 hY2 vs2 bd F3 _ H3 s4 _ fun y F4 H4 e4 s5 hy => ?_
      have s6 := s5.wipe (own.map (·.2))
      rw [ew, wipe_idem, hs] at s6
      obtain ⟨_, hD4, _⟩ := s6.sim.neR
      refine ⟨acc, hD4, by rw [dl]; exact hz, F4, acc ++ [y], ((e'.trans e2).trans e3).trans e4, ?_, ⟨s6.ln, s6.sim.reR⟩⟩
      rw [ho]
      exact (da.mono ((e2.trans e3).trans e4)).append (.cons hy .nil)
    have skip : ∀ (σ1 : S) (F3 H3 : Hp), Ex F2 F3 → SM q.g.K σ1 vs2 bd F3 (upd R D (.lst acc)) H3 → σ1.wipe (own.map (·.2)) = (s (k + 1)).wipe (own.map (·.2)) → out (k + 1) = out k →
        ∃ F' acc', Ex F1 F' ∧ DpAll q.g.K F' acc' (out (k + 1)) ∧ SM q.g.K ((s (k + 1)).wipe (own.map (·.2))) (L2.wipe vs (own.map (·.2))) bd F' (upd R D (.lst acc')) H3 := by
      intro σ1 F3 H3 e3 s4 hs ho
      have s6 := s4.wipe (own.map (·.2))
      rw [ew, wipe_idem, hs] at s6
      exact ⟨F3, acc, (e'.trans e2).trans e3, by rw [ho]; exact da.mono (e2.trans e3), s6⟩
    rcases tn.or with ⟨d2, σ1, σ2, hc, he, hs, hok⟩ | ⟨σ1, hc, hs, hok⟩
    · cases ifs with
      | nil =>
        subst hc
        have e0 : wTs (q.blk scope) ([] : List Expr) = tYes := rfl
        rw [e0]
        unfold tYes
        dsimp only
        rw [if_pos rfl]
        exact item d2 _ σ2 F2 H2 (Ex.refl _) s3 he hs hok
      | cons c r =>
        intro Y2 hY2
        refine hc Y2 hY2 vs2 bd F2 _ H2 s3 _ fun F3 H3 e3 s4 => ?_
        show (if true = true then _ else _)
        rw [if_pos rfl]
        exact item d2 σ1 σ2 F3 H3 e3 s4 he hs hok
    · cases ifs with
      | nil => exact hc.elim
      | cons c r =>
        intro Y2 hY2
        refine hc Y2 hY2 vs2 bd F2 _ H2 s3 _ fun F3 H3 e3 s4 => ?_
        show (if false = true then _ else _)
        rw [if_neg (by decide)]
        exact skip σ1 F3 H3 e3 s4 hs hok
  · have ln : vs.length = (s ds.length).ws.length := by rw [s1.ln, h.len _ (Nat.le_refl _)]
    have s6 : SM q.g.K (s ds.length) vs bd F' (upd R D (.lst acc)) H' := SM.unwipe s1 s' e' (h.pl _ (Nat.le_refl _)) ln
    exact fo D F' H' (e1.trans e') ln (s6.sim.fromR rD da)
theorem eo_lc (h : LcOk q tg iter elt ifs scope own σ ds f okd s out) (hs : ∀ env x, foldedSetIterable iter env x = pure x := by intro _ _; rfl) : EvO q (.ListComp elt [⟨tg, iter, ifs, 0⟩] scope pos) σ (out ds.length) (s ds.length) := fun X hX vs bd F R H sm Φ fo => by
  obtain ⟨wi, pi, w⟩ := h.go hX sm fo
  exact wE_of (pe_lc hX.calm hX.nd pi (by rw [hX.N, hX.sc]; exact h.ok) (fun s H C cl fp => pGQ (hX.blk s H scope C cl fp)) (fun s H C cl fp => pTs (hX.blk s H scope C cl fp) h.hifs) (fun s H C cl fp => pEQ (hX.blk s H scope C cl fp)) (hs _)) w
/-- name = [..] on one line -/
theorem es_setLc {py : Pos} {spos : Pos} (hx : Ss q x i) (hl : q.sc.names.lookup x = some .local) (hk : q.sc.kind = .function) (hpl : (py.line == pos.line) = true) (ha : (scope.names.any fun (n, k) => n == x && (k == .local || k == .cell)) = false)
    (h : LcOk q tg iter elt ifs scope own σ ds f okd s out) (hs : ∀ env x, foldedSetIterable iter env x = pure x := by intro _ _; rfl) : EvS q (.Assign [.Name x py] (.ListComp elt [⟨tg, iter, ifs, 0⟩] scope pos) spos) σ (.nx ((s ds.length).set i (.own (.lst (out ds.length))))) := fun X hX vs bd F R H sm D fo => by
  obtain ⟨wi, pi, w⟩ := h.go hX sm (Φ := fun v H' => D.nx (vs.set i (some v)) H') fun p F' H' ex ln s' => fo _ F' H' ex (SM.store ln s')
  exact wS_of (ps_setLc hX.calm hX.nd (by rw [hX.N]; exact hx.ix) (by rw [hX.sc]; exact hl) (sw_true (by rw [hX.sc]; exact hk) (by rw [hX.sc]; exact hl) hpl ha) pi (by rw [hX.N, hX.sc]; exact h.ok) (fun s H C cl fp => pGQ (hX.blk s H scope C cl fp)) (fun s H C cl fp => pTs (hX.blk s H scope C cl fp) h.hifs) (fun s H C cl fp => pEQ (hX.blk s H scope C cl fp)) (hs _)) w
end
end TR

set_option Elab.async false
set_option linter.all false
set_option maxRecDepth 100000
set_option maxHeartbeats 1000000
namespace TR
open PySem PySem.Spec L2
open Evl (Ex)
open PyProof.Rows (envOfC)

/-! ### what a call comes to -/
inductive Res where
  /-- data | a new list | an error of the class at C with its value; the borrowed cells behind -/
  | d (d : PyData) (bs : List Cell)
  | o (ds : List PyData) (bs : List Cell)
  | x (C : Addr) (d : PyData) (bs : List Cell)
abbrev FSpec := List W → List Cell → Res → Prop
/-- the own dict of an error, its value d -/
def ExD (K : PySem.W.Frag) (F : Hp) (o : Option Addr) (d : PyData) : Prop := ∃ dd v, o = some dd ∧ F dd = some (.xd [(("value" : Str), v)]) ∧ Dp K F v d
theorem ExD.mono {K : PySem.W.Frag} {F F' : Hp} {o : Option Addr} {d : PyData} (h : ExD K F o d) (e : Ex F F') : ExD K F' o d := by
  obtain ⟨dd, v, a, b, c⟩ := h
  exact ⟨dd, v, a, e _ _ b, c.mono e⟩
def argW : W → Prop
  | .dat _ => True
  | .bor _ => True
  | _ => False
def Res.ok (K : PySem.W.Frag) (bd : List Addr) (F R : Hp) (Φ : VK) (E : XK) : Res → Prop
  | .d z bs => ∀ v F' H', Ex F F' → Sim K [] bd bs F' R H' → Dp K F' v z → Φ v H'
  | .o ds bs => ∀ p F' H', Ex F F' → Sim K [(.own (.lst ds), some (.ref p))] bd bs F' R H' → Φ (.ref p) H'
  | .x C z bs => ∀ F' H' w, Ex F F' → Sim K [] bd bs F' R H' → ExD K F' w z → E (.ref C) w H'
def spF (K : PySem.W.Frag) (n : Nat) (S : FSpec) : Sp := fun vs H Φ E => ∃ ws bs bd F R res, S ws bs res ∧ ws.length = n ∧ SM K ⟨ws, bs⟩ (vs.map some) bd F R H ∧ res.ok K bd F R Φ E
/-! ### raising -/
def EvX (q : Q) (e : Expr) (σ : S) (C : Addr) (d : PyData) (σ' : S) : Prop :=
  ∀ X, q.In X → ∀ vs bd F R H, SM q.g.K σ vs bd F R H → ∀ W : WX, Takes X W → (∀ F' H' o, Ex F F' → SM q.g.K σ' vs bd F' R H' → ExD q.g.K F' o d → W (.ref C) o vs H') → ∀ Φ : VK, wE X e vs H Φ
def EvSx (q : Q) (st : Stmt) (σ : S) (C : Addr) (d : PyData) (σ' : S) : Prop :=
  ∀ X, q.In X → ∀ vs bd F R H, SM q.g.K σ vs bd F R H → ∀ W : WX, Takes X W → (∀ vs' F' H' o, Ex F F' → SM q.g.K σ' vs' bd F' R H' → ExD q.g.K F' o d → W (.ref C) o vs' H') → ∀ D : Ends, wS X st D vs H
def EvBx (q : Q) (sts : List Stmt) (σ : S) (C : Addr) (d : PyData) (σ' : S) : Prop :=
  ∀ X, q.In X → ∀ vs bd F R H, SM q.g.K σ vs bd F R H → ∀ W : WX, Takes X W → (∀ vs' F' H' o, Ex F F' → SM q.g.K σ' vs' bd F' R H' → ExD q.g.K F' o d → W (.ref C) o vs' H') → ∀ D : Ends, wSs X sts D vs H
section
variable {q : Q} {e a b c : Expr} {es : List Expr} {st : Stmt} {sts u v : List Stmt} {σ σ1 σ2 σ3 σ' : S} {d d1 d2 : PyData} {ds : List PyData} {pos p2 p : Pos} {x y : Str} {i j n : Nat} {C : Addr} {k : Bool}
theorem ex_here (h1 : EvSx q st σ C d σ') : EvBx q (st :: sts) σ C d σ' := fun X hX vs bd F R H s W tk f D => wSs_of (pss_cons (pS st) (pSs sts)) (h1 X hX vs bd F R H s W tk f _)
theorem ex_cons (h1 : EvS q st σ (.nx σ1)) (h2 : EvBx q sts σ1 C d σ') : EvBx q (st :: sts) σ C d σ' := fun X hX vs bd F R H s W tk f D =>
  wSs_of (pss_cons (pS st) (pSs sts)) (h1 X hX vs bd F R H s _ fun vs' F' H' ex s' => h2 X hX vs' bd F' R H' s' W tk (fun vs2 F2 H2 o e2 => f vs2 F2 H2 o (ex.trans e2)) D)
theorem ex_expr (h : EvX q e σ C d σ') (hs : ∀ env, swapsWith e none pos.line env = pure false := by intro _; rfl) : EvSx q (.Expr e pos) σ C d σ' := fun X hX vs bd F R H s W tk f D =>
  wS_of (ps_expr (pE e) (hs _)) (h X hX vs bd F R H s W tk (fun F' H' o => f vs F' H' o) _)
theorem ex_ret (h : EvX q e σ C d σ') : EvSx q (.Return (some e) pos) σ C d σ' := fun X hX vs bd F R H s W tk f D => wS_of (ps_ret (pE e)) (h X hX vs bd F R H s W tk (fun F' H' o => f vs F' H' o) _)
theorem ex_set (h : Ss q x i) (he : EvX q e σ C d σ') {pos' : Pos} (hs : ∀ env, swapsWith e (some (.Name x pos')) pos.line env = pure false := by intro _; rfl) : EvSx q (.Assign [.Name x pos'] e pos) σ C d σ' := fun X hX vs bd F R H s W tk f D =>
  wS_of (h.set hX (pE e) hs) (he X hX vs bd F R H s W tk (fun F' H' o => f vs F' H' o) _)
theorem ex_ifT (hc : EvT q c σ true σ1) (h : EvBx q u σ1 C d σ') : EvSx q (.If c u v pos) σ C d σ' := fun X hX vs bd F R H s W tk f D =>
  wS_of (ps_if (pT c) (pSs u) (pSs v)) (hc X hX vs bd F R H s _ fun F' H' ex s' => by
    show (if true = true then _ else _)
    rw [if_pos rfl]
    exact h X hX vs bd F' R H' s' W tk (fun vs2 F2 H2 o e2 => f vs2 F2 H2 o (ex.trans e2)) D)
theorem ex_ifF (hc : EvT q c σ false σ1) (h : EvBx q v σ1 C d σ') : EvSx q (.If c u v pos) σ C d σ' := fun X hX vs bd F R H s W tk f D =>
  wS_of (ps_if (pT c) (pSs u) (pSs v)) (hc X hX vs bd F R H s _ fun F' H' ex s' => by
    show (if false = true then _ else _)
    rw [if_neg (by decide)]
    exact h X hX vs bd F' R H' s' W tk (fun vs2 F2 H2 o e2 => f vs2 F2 H2 o (ex.trans e2)) D)

end
/-! ### defs whose caller has nothing under way that shows itself -/
/-- the promise of the def at f, where no repr is under way -/
structure FnG (g : G) (CX : CXT) (k : Nat) (f : Addr) (fd : FuncData) (ps : List Str) (sp : Sp) : Prop where
  many : ∀ vs H Q E, sp vs H Q E → vs.length = ps.length
  go : ∀ (A : Around) (outer : List Env) (s : Shared) (H : Hp) (args : Args) (us : List Value) (vs : List V) (Q : VK) (E : XK), Room k A → A.guards = some [] → Env0 g.P g.w g.K g.mg g.base A outer s H →
    BindsTo s fd args (ps.zip us) → Vals vs us → sp vs H Q E → codeAny (model g.P g.w) A (.call (.ref f) args) (CR CX outer g.P g.w H s Q E) s
theorem gu_deeper {A : Around} {env : Env} (h : A.guards = some []) : (A.deeper env).guards = some [] := h
theorem fnG_of {CX : CXT} {g : G} {k : Nat} {f : Addr} {fd : FuncData} {nm qual : Str} {params : Arguments} {body : List Stmt} {sc : Scope} {N ps : List Str} {sp : Sp} (F : FunD g.K nm qual params body sc [] [] f fd) (Sc : FnScope N ps sc)
    (many : ∀ vs H Q E, sp vs H Q E → vs.length = ps.length)
    (hb : ∀ (cdv : Value) (A : Around) (outer : List Env) (s : Shared) (H : Hp) (vs : List V) (Q : VK) (E : XK), Room k (A.deeper (envOfC qual sc s.heap.objs.size f cdv)) → A.guards = some [] → sp vs H Q E →
      wSs (cxOf CX g.P g.w g.K g.mg g.base N qual sc f cdv A outer s H E) body { nx := fun _ H' => Q .non H', rt := Q } (L2.start N vs) H) : FnG g CX (k + 1) f fd ps sp := by
  obtain ⟨oc, od, dV, kV, doc, pm, an, cdv, ct, osl, rfl, lk, hcd, _, _⟩ := F.ex
  refine ⟨many, fun A outer s H args us vs Q E room gu e0 bind rv pr => ?_⟩
  have old : ∀ b o, g.base.get? b = some o → s.heap.get? b = some o := fun b o z => (e0.bs b o z).1
  have kin := e0.mod.kin.keeps old
  have nolim := e0.mod.nolimit.keeps old
  have kinds : ∀ y ∈ ps.zip us, sc.names.lookup y.1 = some .local ∨ (sc.names.lookup y.1 = some .cell ∧ ((cellsFrom (s.heap.objs.size + 1) sc.names []).lookup y.1).isSome = true) := by
    rintro ⟨n, v⟩ hy
    rcases Sc.par n (List.of_mem_zip hy).1 with z | z
    · left; exact z
    · right; exact ⟨z, PySem.W.cellsFrom_some _ _ _ (Or.inl z)⟩
  refine codeAny_call_function room.depth (kin _ _ lk) rfl Sc.co Sc.gen rfl (PySem.W.codeRec_of kin hcd) (bind _ _ _ _ ?_)
  refine wpAny_newFunctionEnv_cells Sc.kind kinds fun env henv s1 ic => ?_
  subst henv
  refine ⟨nolim.keeps ic.toInCall.keep, codeAny_func ?_⟩
  have I0 := inv_start (CX := CX) (E := E) Sc room.hd e0 (many _ _ _ _ pr) rv ic
  refine wpAny_mono (hb cdv A outer s H vs Q E (room.deeper _) gu pr [] s1 I0) (fun fl s' z => ?_) fun e s' z => z
  have fin : ∀ {σ' : L2.St} {H' : Hp} {v : V} {u : Value}, L2.Inv (cxOf CX g.P g.w g.K g.mg g.base N qual sc f cdv A outer s H E) [] σ' H' s' → RelV v u → Q v H' → CE outer g.P g.w H s Q u s' :=
    fun J r z => ⟨_, _, J.os, J.bare, J.base, J.hok, r, z⟩
  cases fl with
  | ret u =>
    obtain ⟨v, σ', H', J, r, z⟩ := z
    exact fin J r z
  | next =>
    obtain ⟨σ', H', J, z⟩ := z
    exact fin J (show RelV V.non Value.none from rfl) z
  | brk => obtain ⟨_, _, _, z⟩ := z; exact z.elim
  | cont => obtain ⟨_, _, _, z⟩ := z; exact z.elim
/-- the callee runs, its arguments bound -/
theorem FnG.call {g : G} {CX : CXT} {k : Nat} {f : Addr} {fd : FuncData} {ps : List Str} {sp : Sp} {E : XK} (F : FnG g CX k f fd ps sp) {q : Q} (hg : q.g = g) {X : Cx} (hX : q.In X) (hk : k ≤ q.k) (hx : Passes CX X E)
    {pins : List (Addr × Obj)} {σ : L2.St} {H : Hp} {s : Shared} {Φ : VK} {pos : List Value} {kw : List (Str × Value)} {us : List Value} {vs : List V} (I : L2.Inv X pins σ H s) (hb : BindsTo s fd ⟨pos, kw⟩ (ps.zip us)) (r : Vals vs us) (h : sp vs H Φ E) :
    wpAny (model X.prog X.w) X.A (call (.ref f) pos kw) (EP X pins σ Φ) X.xe s := by
  subst hg
  have F' := F.go X.A X.stack s H ⟨pos, kw⟩ us vs Φ E (hX.room.mono hk) hX.gu (by rw [← hX.prog, ← hX.w, ← hX.K, ← hX.mg, ← hX.base]; exact I.env0) hb r h
  rw [← hX.prog, ← hX.w] at F'
  refine wpAny_call (codeAny_mono F' fun r s' hq => ?_)
  cases r with
  | error e => exact hx pins σ H s e s' I hq
  | ok fl => cases fl with
    | ret u => exact I.after hq
    | _ => exact False.elim hq
section
variable {q : Q} {e a b c : Expr} {es : List Expr} {st : Stmt} {sts u v : List Stmt} {σ σ1 σ2 σ3 σ' : S} {d d1 d2 : PyData} {ds : List PyData} {pos p2 p : Pos} {x y : Str} {i j n : Nat} {C : Addr} {k : Bool}
/-! ### a def keeps its promise -/
def S.start (N : List Str) (ws : List W) (bs : List Cell) : S := ⟨ws ++ List.replicate (N.length - ws.length) .un, bs⟩
/-- the body, begun with ws and the borrowed bs, comes to res -/
inductive EvFn (q : Q) (body : List Stmt) (ws : List W) (bs : List Cell) : Res → Prop
  | d (d : PyData) (σ' : S) (h : EvB q body (S.start q.N ws bs) (.rd d σ')) : EvFn q body ws bs (.d d σ'.bs)
  | n (σ' : S) (h : EvB q body (S.start q.N ws bs) (.nx σ')) : EvFn q body ws bs (.d .none σ'.bs)
  | o (ds : List PyData) (σ' : S) (h : EvB q body (S.start q.N ws bs) (.ro ds σ')) : EvFn q body ws bs (.o ds σ'.bs)
  | x (C : Addr) (d : PyData) (σ' : S) (h : EvBx q body (S.start q.N ws bs) C d σ') : EvFn q body ws bs (.x C d σ'.bs)
def qOf (g : G) (N : List Str) (sc : Scope) (k : Nat) : Q := ⟨g, N, sc, k, true, fun _ => true⟩
theorem Sim.nil {K : PySem.W.Frag} {L : List (W × Option V)} {bd : List Addr} {bs : List Cell} {F R H : Hp} (s : Sim K L bd bs F R H) : Sim K [] bd bs F R H := s.sub (List.nil_sublist _)
theorem Sim.one {K : PySem.W.Frag} {L : List (W × Option V)} {bd : List Addr} {bs : List Cell} {F R H : Hp} {z : W × Option V} (s : Sim K (z :: L) bd bs F R H) : Sim K [z] bd bs F R H := s.sub ((List.nil_sublist _).cons₂ z)
theorem start_SM {K : PySem.W.Frag} {N : List Str} {ws : List W} {bs : List Cell} {vs : List V} {bd : List Addr} {F R H : Hp} (s : SM K ⟨ws, bs⟩ (vs.map some) bd F R H) (h : ws.length ≤ N.length) : SM K (S.start N ws bs) (L2.start N vs) bd F R H := by
  have hl : vs.length = ws.length := by have := s.ln; simpa using this
  refine ⟨by simp [S.start, L2.start, hl], ?_⟩
  show Sim K ((ws ++ List.replicate (N.length - ws.length) W.un).zip (vs.map some ++ List.replicate (N.length - vs.length) none)) bd bs F R H
  rw [hl, List.zip_append (by simp [hl])]
  have key : ∀ (m : Nat) (L : List (W × Option V)), Sim K L bd bs F R H → Sim K ((List.replicate m W.un).zip (List.replicate m (none : Option V)) ++ L) bd bs F R H := by
    intro m
    induction m with
    | zero => intro L h; exact h
    | succ m ih =>
      intro L h
      show Sim K ((W.un, none) :: _) bd bs F R H
      exact (ih L h).push own_un trivial
  exact (key _ _ s.sim).perm List.perm_append_comm
theorem fn_ok {g : G} {nm qual : Str} {params : Arguments} {body : List Stmt} {sc : Scope} {f : Addr} {fd : FuncData} {N ps : List Str} {k : Nat} {Sp : FSpec} (F : FunD g.K nm qual params body sc [] [] f fd) (Sc : FnScope N ps sc)
    (h : ∀ ws bs res, Sp ws bs res → ws.length = ps.length → EvFn (qOf g N sc k) body ws bs res) : FnG g (L2.CX g.P g.w) (k + 1) f fd ps (spF g.K ps.length Sp) := by
  refine fnG_of F Sc (fun vs H Φ E hs => ?_) (fun cdv A outer s H vs Φ E hr hgu hs => ?_)
  · obtain ⟨ws, bs, bd, F, R, res, _, hl, sm, _⟩ := hs
    have := sm.ln
    simpa [hl] using this
  · obtain ⟨ws, bs, bd, F1, R, res, hS, hl, sm, ok⟩ := hs
    have hX : (qOf g N sc k).In (cxOf (L2.CX g.P g.w) g.P g.w g.K g.mg g.base N qual sc f cdv A outer s H E) :=
      { prog := rfl, w := rfl, K := rfl, mg := rfl, base := rfl, N := rfl, nd := Sc.nd, sc := rfl, calm := rfl, room := hr, gu := gu_deeper hgu, fn := fun _ _ => rfl, pass := fun _ => passes_of rfl, stk := fun _ => ⟨rfl, rfl⟩ }
    have hlN : ws.length ≤ N.length := by
      have h1 := congrArg List.length Sc.pre
      rw [List.length_take] at h1
      omega
    have s0 := start_SM (N := N) sm hlN
    have e := h ws bs res hS hl
    cases e with
    | d d σ' h => exact h _ hX _ bd F1 R H s0 _ fun v vs' F' H' ex s' hd => ok v F' H' ex s'.sim.nil hd
    | n σ' h => exact h _ hX _ bd F1 R H s0 _ fun vs' F' H' ex s' => ok .non F' H' ex s'.sim.nil .non
    | o ds σ' h => exact h _ hX _ bd F1 R H s0 _ fun p vs' F' H' ex ln s' => ok p F' H' ex s'.one
    | x C d σ' h => exact h _ hX _ bd F1 R H s0 _ (takes_of rfl rfl rfl rfl) (fun vs' F' H' o ex s' hd => ok F' H' o ex s'.sim.nil hd) _

/-! ### calls of the module's defs -/
structure Fn (q : Q) (x : Str) (ps : List Str) (Sp : FSpec) : Prop where
  ex : ∃ j f fd, j ≤ q.k ∧ FnG q.g (L2.CX q.g.P q.g.w) j f fd ps (spF q.g.K ps.length Sp) ∧ Binds q.g.K fd ps [] ∧ q.g.mg x = some (.ref f) ∧ PySem.W.keepIn q.g.K (.ref f) = true
  gl : GlQ q x
  nd : (x == ("__debug__" : Str)) = false
theorem passNo {X : Cx} {P : Program} {w : World} : Passes (L2.CX P w) X (fun _ _ _ => False) := fun pins σ H s e s' I h => by
  obtain ⟨a, B, H', cls, d, _, _, _, _, _, _, _, z⟩ := h
  exact z.elim
/-- all that is tracked beside F -/
def restH (F H : Hp) (ps : List Addr) : Hp := fun a => if a ∈ ps then none else match F a with
  | some _ => none
  | none => H a
theorem restH_some {F H : Hp} {ps : List Addr} {a : Addr} {o : HO} (h : restH F H ps a = some o) : F a = none ∧ H a = some o ∧ a ∉ ps := by
  unfold restH at h
  split at h
  · cases h
  · rename_i hn
    cases e : F a with
    | some _ => rw [e] at h; cases h
    | none => rw [e] at h; exact ⟨rfl, h, hn⟩
theorem restH_of {F H : Hp} {ps : List Addr} {a : Addr} {o : HO} (hf : F a = none) (h : H a = some o) (hn : a ∉ ps) : restH F H ps a = some o := by
  unfold restH
  rw [if_neg hn, hf]
  exact h
theorem restH_in {F H : Hp} {ps : List Addr} {a : Addr} (hn : a ∈ ps) : restH F H ps a = none := by
  unfold restH
  rw [if_pos hn]
/-- nothing of ours was given away -/
theorem SM.keep {K : PySem.W.Frag} {vs : L2.St} {bd : List Addr} {F F' R H H' : Hp} (s : SM K σ vs bd F R H) (e1 : Ex F F') (e2 : Ex F' H') (kp : ∀ a o, F a = none → H a = some o → H' a = some o ∧ F' a = none) : SM K σ vs bd F' R H' := by
  refine ⟨s.ln, ⟨e2, fun a o e => (kp a o (s.sim.fr a o e) (s.sim.rh a o e)).1, fun a o e => (kp a o (s.sim.fr a o e) (s.sim.rh a o e)).2, s.sim.len, fun q hq => ?_, fun k p c a b => ?_, s.sim.nd, fun p hp => ?_⟩⟩
  · refine (s.sim.ok q hq).cong e1 fun p hp => ?_
    have m : p ∈ bd ++ (σ.ws.zip vs).filterMap own1 := List.mem_append_right _ (List.mem_filterMap.mpr ⟨q, hq, hp⟩)
    obtain ⟨o, ho⟩ := s.sim.ownHp m
    rw [(kp p o (s.sim.out p m).1 ho).1, ho]
  · have m : p ∈ bd ++ (σ.ws.zip vs).filterMap own1 := List.mem_append_left _ (List.mem_of_getElem? a)
    obtain ⟨o, ho⟩ := s.sim.ownHp m
    exact (s.sim.bo k p c a b).cong e1 (by rw [(kp p o (s.sim.out p m).1 ho).1, ho])
  · obtain ⟨o, ho⟩ := s.sim.ownHp hp
    exact ⟨(kp p o (s.sim.out p hp).1 ho).2, (s.sim.out p hp).2⟩
theorem args_SM {K : PySem.W.Frag} {us : List V} {F R H : Hp} (h : DpAll K F us ds) (fh : Ex F H) (rh : Ex R H) (fr : ∀ a o, R a = some o → F a = none) : SM K ⟨ds.map .dat, []⟩ (us.map some) [] F R H := by
  refine ⟨by simp [h.length], ⟨fh, rh, fr, rfl, fun q hq => ?_, fun k p c a b => by simp at a, ?_, fun p hp => ?_⟩⟩
  · obtain ⟨i, hi⟩ := List.getElem?_of_mem hq
    rw [List.getElem?_zip_eq_some] at hi
    obtain ⟨h1, h2⟩ := hi
    rw [List.getElem?_map] at h1 h2
    cases e1 : ds[i]? with
    | none => rw [e1] at h1; cases h1
    | some d =>
      rw [e1] at h1
      cases e2 : us[i]? with
      | none => rw [e2] at h2; cases h2
      | some u =>
        rw [e2] at h2
        obtain ⟨v, a, b⟩ := h.get e1
        rw [e2] at a
        cases a
        obtain ⟨q1, q2⟩ := q
        cases h1
        cases h2
        exact ⟨u, rfl, b⟩
  · have e : ((ds.map W.dat).zip (us.map some)).filterMap own1 = [] := by
      rw [List.filterMap_eq_nil_iff]
      intro q hq
      have := List.of_mem_zip hq
      obtain ⟨d, _, e⟩ := List.mem_map.mp this.1
      obtain ⟨q1, q2⟩ := q
      dsimp only at e
      subst e
      exact own_dat
    show ([] ++ ((ds.map W.dat).zip (us.map some)).filterMap own1).Nodup
    rw [e]
    exact List.nodup_nil
  · exfalso
    have hp' : p ∈ ((ds.map W.dat).zip (us.map some)).filterMap own1 := hp
    obtain ⟨q, hq, e⟩ := List.mem_filterMap.mp hp'
    have := List.of_mem_zip hq
    obtain ⟨d, _, e'⟩ := List.mem_map.mp this.1
    obtain ⟨q1, q2⟩ := q
    dsimp only at e'
    subst e'
    rw [own_dat] at e
    cases e
theorem call_sp {K : PySem.W.Frag} {us : List V} {vs : L2.St} {bd : List Addr} {F R H : Hp} {Sp : FSpec} {res : Res} {Φ : VK} {E : XK} (s : SM K σ vs bd F R H) (h : DpAll K F us ds) (hS : Sp (ds.map .dat) [] res) (hn : ds.length = n)
    (ok : res.ok K [] F (restH F H []) Φ E) : spF K n Sp us H Φ E :=
  ⟨_, _, _, F, restH F H [], res, hS, by simpa using hn, args_SM h s.sim.fh (fun a o e => (restH_some e).2.1) (fun a o e => (restH_some e).1), ok⟩
theorem SM.back {K : PySem.W.Frag} {vs : L2.St} {bd : List Addr} {bd' : List Addr} {bs' : List Cell} {L : List (W × Option V)} {F F' R H H' : Hp} (s : SM K σ vs bd F R H) (e1 : Ex F F') (s' : Sim K L bd' bs' F' (restH F H []) H') : SM K σ vs bd F' R H' :=
  s.keep e1 s'.fh fun a o hf hh => ⟨s'.rh a o (restH_of hf hh (by simp)), s'.fr a o (restH_of hf hh (by simp))⟩
theorem Fn.pe {Sp : FSpec} {ps : List Str} (h : Fn q x ps Sp) {X : Cx} (hX : q.In X) {E : XK} (hx : Passes (L2.CX q.g.P q.g.w) X E) (hs : ∀ env, starEach (e :: es) env = (false, eval e env) :: starEach es env) (hpl : ∀ env, (backTo pos (starEach es env)).any (·.1) = false) :
    PE X (.Call (.Name x p) (e :: es) [] pos) (fun σ H Φ => wA X (e :: es) σ H fun us H1 => us.length = ps.length ∧ spF q.g.K ps.length Sp us H1 Φ E) := by
  obtain ⟨j, f, fd, hj, F, hb, hm, hk⟩ := h.ex
  refine ⟨fun pins s σ H Φ I w => ?_⟩
  refine wpAny_Call_Name_kw (ld_glob I (h.gl.gl hX) (by rw [hX.mg]; exact hm) ?_ h.nd)
  refine PySem.W.callWith_K (h₀ := X.base) I.ok.mod.kin (by rw [hX.K]; exact hk) (thn (w pos pins s I) fun us s1 ⟨vs, H1, I1, r, hl, z⟩ => ⟨I1.kIn, ?_⟩) (hs _) (hpl _)
  have b := hb s1 us (by rw [← hX.K]; exact I1.kIn) (by simpa using r.length.symm.trans hl)
  rw [List.append_nil] at b
  exact F.call rfl hX hj hx I1 b r z
theorem ev_call {Sp : FSpec} {ps : List Str} (h : Fn q x ps Sp) (ha : EvA q (e :: es) σ ds σ1) (hS : Sp (ds.map .dat) [] (.d d [])) (hn : ds.length = ps.length := by rfl) (hs : ∀ env, starEach (e :: es) env = (false, eval e env) :: starEach es env := by intro _; rfl) (hpl : ∀ env, (backTo pos (starEach es env)).any (·.1) = false := by intro _; rfl) :
    EvD q (.Call (.Name x p) (e :: es) [] pos) σ d σ1 := fun X hX vs bd F R H s Φ f => by
  refine wE_of (h.pe hX passNo hs hpl) (ha X hX vs bd F R H s _ fun us F1 H1 e1 s1 hd => ?_)
  refine ⟨by rw [hd.length]; exact hn, ?_⟩
  exact call_sp s1 hd hS hn fun v F' H' ex s' hv => f v F' H' (e1.trans ex) (s1.back ex s') hv
theorem eo_call {Sp : FSpec} {ps : List Str} {rs : List PyData} (h : Fn q x ps Sp) (ha : EvA q (e :: es) σ ds σ1) (hS : Sp (ds.map .dat) [] (.o rs [])) (hn : ds.length = ps.length := by rfl) (hs : ∀ env, starEach (e :: es) env = (false, eval e env) :: starEach es env := by intro _; rfl) (hpl : ∀ env, (backTo pos (starEach es env)).any (·.1) = false := by intro _; rfl) :
    EvO q (.Call (.Name x p) (e :: es) [] pos) σ rs σ1 := fun X hX vs bd F R H s Φ f => by
  refine wE_of (h.pe hX passNo hs hpl) (ha X hX vs bd F R H s _ fun us F1 H1 e1 s1 hd => ?_)
  refine ⟨by rw [hd.length]; exact hn, ?_⟩
  refine call_sp s1 hd hS hn fun p F' H' ex s' => ?_
  have sb := s1.back ex s'
  obtain ⟨p', e', xs, hx, hxs⟩ := s'.ok _ List.mem_cons_self
  cases e'
  obtain ⟨fp, rp⟩ := s'.out p (List.mem_cons_self)
  -- p is not ours
  have np : ∀ a ∈ bd ++ (σ1.ws.zip vs).filterMap own1, a ≠ p := fun a ha q => by
    subst q
    obtain ⟨o, ho⟩ := s1.sim.ownHp ha
    rw [restH_of (s1.sim.out a ha).1 ho (by simp)] at rp
    cases rp
  have rnp : R p = none := by
    cases z : R p with
    | none => rfl
    | some o =>
      rw [restH_of (s1.sim.fr p o z) (s1.sim.rh p o z) (by simp)] at rp
      cases rp
  refine f p F' H' (e1.trans ex) sb.ln ⟨sb.sim.fh, sb.sim.rh, sb.sim.fr, sb.sim.len, fun q hq => ?_, sb.sim.bo, ?_, fun a ha => ?_⟩
  · rcases List.mem_cons.mp hq with rfl | hq
    · exact ⟨p, rfl, xs, hx, hxs⟩
    · exact sb.sim.ok q hq
  · show (bd ++ p :: (σ1.ws.zip vs).filterMap own1).Nodup
    have nd := List.nodup_append.mp sb.sim.nd
    rw [List.nodup_append]
    refine ⟨nd.1, List.nodup_cons.mpr ⟨fun z => np p (List.mem_append_right _ z) rfl, nd.2.1⟩, fun a ha b hb => ?_⟩
    rcases List.mem_cons.mp hb with rfl | hb
    · exact np a (List.mem_append_left _ ha)
    · exact nd.2.2 a ha b hb
  · have ha' : a ∈ bd ++ p :: (σ1.ws.zip vs).filterMap own1 := ha
    rcases List.mem_append.mp ha' with h | h
    · exact sb.sim.out a (List.mem_append_left _ h)
    · rcases List.mem_cons.mp h with rfl | h
      · exact ⟨fp, rnp⟩
      · exact sb.sim.out a (List.mem_append_right _ h)
end
end TR

set_option Elab.async false
set_option linter.all false
set_option maxRecDepth 100000
set_option maxHeartbeats 1000000
namespace TR
open PySem PySem.Spec L2
open Evl (Ex)
open PyProof.Rows (envOfC)
section
variable {q : Q} {e a b c : Expr} {es : List Expr} {st : Stmt} {sts u v : List Stmt} {σ σ1 σ2 σ3 σ' : S} {d d1 d2 z : PyData} {ds : List PyData} {pos p2 p : Pos} {x y : Str} {i j n : Nat} {C : Addr} {k : Bool}
/-! ### a call that raises -/
theorem passW {q : Q} {X : Cx} (hX : q.In X) {W : WX} (tk : Takes X W) {E : XK} (σ : L2.St) (h : ∀ cls d H', E cls d H' → W cls d σ H') :
    ∀ (pins : List (Addr × Obj)) (H : Hp) (s : Shared) (e : Value) (s' : Shared), L2.Inv X pins σ H s → L2.CX X.prog X.w X.stack H s E e s' → X.xe e s' := fun pins H s e s' I h' => tk e s' (XE.of_call I h h')
theorem FnG.callS {g : G} {CX : CXT} {k : Nat} {f : Addr} {fd : FuncData} {ps : List Str} {sp : Sp} {E : XK} (F : FnG g CX k f fd ps sp) {q : Q} (hg : q.g = g) {X : Cx} (hX : q.In X) (hk : k ≤ q.k) {σ : L2.St}
    (hx : ∀ (pins : List (Addr × Obj)) (H : Hp) (s : Shared) (e : Value) (s' : Shared), L2.Inv X pins σ H s → CX X.stack H s E e s' → X.xe e s')
    {pins : List (Addr × Obj)} {H : Hp} {s : Shared} {Φ : VK} {pos : List Value} {kw : List (Str × Value)} {us : List Value} {vs : List V} (I : L2.Inv X pins σ H s) (hb : BindsTo s fd ⟨pos, kw⟩ (ps.zip us)) (r : Vals vs us) (h : sp vs H Φ E) :
    wpAny (model X.prog X.w) X.A (PySem.call (.ref f) pos kw) (EP X pins σ Φ) X.xe s := by
  subst hg
  have F' := F.go X.A X.stack s H ⟨pos, kw⟩ us vs Φ E (hX.room.mono hk) hX.gu (by rw [← hX.prog, ← hX.w, ← hX.K, ← hX.mg, ← hX.base]; exact I.env0) hb r h
  rw [← hX.prog, ← hX.w] at F'
  refine wpAny_call (codeAny_mono F' fun r s' hq => ?_)
  cases r with
  | error e => exact hx pins H s e s' I hq
  | ok fl => cases fl with
    | ret u => exact I.after hq
    | _ => exact False.elim hq
theorem evx_call {Sp : FSpec} {ps : List Str} (h : Fn q x ps Sp) (ha : EvA q (e :: es) σ ds σ1) (hS : Sp (ds.map .dat) [] (.x C d [])) (hn : ds.length = ps.length := by rfl) (hs : ∀ env, starEach (e :: es) env = (false, eval e env) :: starEach es env := by intro _; rfl) (hpl : ∀ env, (backTo pos (starEach es env)).any (·.1) = false := by intro _; rfl) :
    EvX q (.Call (.Name x p) (e :: es) [] pos) σ C d σ1 := fun X hX vs bd F R H s W tk f Φ => by
  obtain ⟨j, fa, fd, hj, G', hb, hm, hk⟩ := h.ex
  intro pins st I
  refine wpAny_Call_Name_kw (ld_glob I (h.gl.gl hX) (by rw [hX.mg]; exact hm) ?_ h.nd)
  refine PySem.W.callWith_K (h₀ := X.base) I.ok.mod.kin (by rw [hX.K]; exact hk) (thn (ha X hX vs bd F R H s (fun us H1 => us.length = ps.length ∧ spF q.g.K ps.length Sp us H1 Φ fun cls o H' => W cls o vs H') (fun us F1 H1 e1 s1 hd => ⟨by rw [hd.length]; exact hn, ?_⟩) pos pins st I) fun us s1 ⟨vs', H1, I1, r, hl, z⟩ => ⟨I1.kIn, ?_⟩) (hs _) (hpl _)
  · exact call_sp s1 hd hS hn fun F' H' o ex s' hv => f F' H' o (e1.trans ex) (s1.back ex s') hv
  · have b := hb s1 us (by rw [← hX.K]; exact I1.kIn) (by simpa using r.length.symm.trans hl)
    rw [List.append_nil] at b
    refine G'.callS rfl hX hj (E := fun cls o H' => W cls o vs H') (by rw [← hX.prog, ← hX.w]; exact passW hX tk vs fun _ _ _ z => z) I1 b r z
/-! ### keywords alone -/
def wK (X : Cx) (kws : List Keyword) : TA := fun σ H Φ => ∀ (pos : Pos) pins s, L2.Inv X pins σ H s → wpAny (model X.prog X.w) X.A (evalAll ((backToKw pos (keywordEach kws X.env)).map (·.2))) (AP X pins σ Φ) X.xe s
theorem pK {X : Cx} (kws : List Keyword) : PK X kws (wK X kws) := ⟨fun pos pins s _ _ _ I h => h pos pins s I⟩
def EvK (q : Q) (kws : List Keyword) (σ : S) (ds : List PyData) (σ' : S) : Prop :=
  ∀ X, q.In X → ∀ vs bd F R H, SM q.g.K σ vs bd F R H → ∀ Φ : List V → Hp → Prop, (∀ us F' H', Ex F F' → SM q.g.K σ' vs bd F' R H' → DpAll q.g.K F' us ds → Φ us H') → wK X kws vs H Φ
theorem ek_nil : EvK q [] σ [] σ := fun X hX vs bd F R H s Φ f pos pins st I => pk_nil.run pos pins st vs H Φ I (f [] F H (Ex.refl _) s .nil)
theorem ek_cons {nm : Option Str} {kpos : Pos} {kws : List Keyword} (h : EvD q e σ d σ1) (hr : EvK q kws σ1 ds σ2) : EvK q (⟨nm, e, kpos⟩ :: kws) σ (d :: ds) σ2 := fun X hX vs bd F R H s Φ f pos pins st I =>
  (pk_cons (pE e) (pK kws)).run pos pins st vs H Φ I (h X hX vs bd F R H s _ fun v F1 H1 e1 s1 h1 => hr X hX vs bd F1 R H1 s1 _ fun us F2 H2 e2 s2 h2 => f _ F2 H2 (e1.trans e2) s2 (.cons (h1.mono e2) h2))
/-- l in the order of ix -/
def permL {α : Type} (ix : List Nat) (l : List α) : List α := ix.filterMap (l[·]?)
theorem permL_dp {K : PySem.W.Frag} {F : Hp} {us : List V} {ds : List PyData} (h : DpAll K F us ds) : ∀ ix : List Nat, DpAll K F (permL ix us) (permL ix ds)
  | [] => .nil
  | i :: ix => by
    have ih := permL_dp h ix
    unfold permL at ih ⊢
    rw [List.filterMap_cons, List.filterMap_cons]
    cases e : ds[i]? with
    | none =>
      have : us[i]? = none := by
        rw [List.getElem?_eq_none_iff] at e ⊢
        rw [h.length]; exact e
      rw [this]; exact ih
    | some d =>
      obtain ⟨v, e2, hv⟩ := h.get e
      rw [e2]
      exact .cons hv ih
theorem permL_vals {vs : List V} {us : List Value} (h : Vals vs us) : ∀ ix : List Nat, Vals (permL ix vs) (permL ix us)
  | [] => .nil
  | i :: ix => by
    have ih := permL_vals h ix
    unfold permL at ih ⊢
    rw [List.filterMap_cons, List.filterMap_cons]
    cases e : vs[i]? with
    | none =>
      rw [h.none_of e]; exact ih
    | some d =>
      obtain ⟨v, e2, hv⟩ := h.get e
      rw [e2]
      exact .cons hv ih
structure FnK (q : Q) (x : Str) (ps : List Str) (Sp : FSpec) (ks : List Str) (ix : List Nat) : Prop where
  ex : ∃ j f fd, j ≤ q.k ∧ FnG q.g (L2.CX q.g.P q.g.w) j f fd ps (spF q.g.K ps.length Sp) ∧ (∀ (s : Shared) (us : List Value), us.length = ks.length → BindsTo s fd ⟨[], ks.zip us⟩ (ps.zip (permL ix us))) ∧ q.g.mg x = some (.ref f) ∧ PySem.W.keepIn q.g.K (.ref f) = true
  gl : GlQ q x
  nd : (x == ("__debug__" : Str)) = false
theorem ev_callK {Sp : FSpec} {ps ks : List Str} {ix : List Nat} {kws : List Keyword} (h : FnK q x ps Sp ks ix) (ha : EvK q kws σ ds σ1) (hS : Sp ((permL ix ds).map .dat) [] (.d d [])) (hn : ds.length = ks.length := by rfl) (hp : (permL ix ds).length = ps.length := by rfl)
    (hall : ∀ env, (backToKw pos (keywordEach kws env)).all (·.1.isSome) = true := by intro _; rfl) (hks : ∀ env, (backToKw pos (keywordEach kws env)).filterMap (·.1) = ks := by intro _; rfl)
    (hpl : ∀ env, ((backTo pos (starEach [] env)).any (·.1) || (backToKw pos (keywordEach kws env)).any (·.1.isNone)) = false := by intro _; rfl) : EvD q (.Call (.Name x p) [] kws pos) σ d σ1 := fun X hX vs bd F R H s Φ f => by
  obtain ⟨j, fa, fd, hj, G', hb, hm, hk⟩ := h.ex
  intro pins st I
  refine wpAny_Call_Name_kw (ld_glob I (h.gl.gl hX) (by rw [hX.mg]; exact hm) ?_ h.nd)
  refine PySem.W.callWith_KW0 (h₀ := X.base) I.ok.mod.kin (by rw [hX.K]; exact hk) (hall _) (thn (ha X hX vs bd F R H s (fun us H1 => us.length = ks.length ∧ spF q.g.K ps.length Sp (permL ix us) H1 Φ fun _ _ _ => False) (fun us F1 H1 e1 s1 hd => ⟨by rw [hd.length]; exact hn, ?_⟩) pos pins st I) fun us s1 ⟨vs', H1, I1, r, hl, z⟩ => ⟨I1.kIn, ?_⟩) (hpl _)
  · exact call_sp s1 (permL_dp hd ix) hS hp fun v F' H' ex s' hv => f v F' H' (e1.trans ex) (s1.back ex s') hv
  · rw [hks]
    exact G'.call rfl hX hj passNo I1 (hb s1 us (by rw [← r.length]; exact hl)) (permL_vals r ix) z

/-! ### a call that borrows the cell of slot i -/
inductive ArgsOk (K : PySem.W.Frag) (F : Hp) (o : Option V) : List V → List (Option PyData) → Prop
  | nil : ArgsOk K F o [] []
  | dat {v d vs ds} : Dp K F v d → ArgsOk K F o vs ds → ArgsOk K F o (v :: vs) (some d :: ds)
  | bor {v vs ds} : o = some v → ArgsOk K F o vs ds → ArgsOk K F o (v :: vs) (none :: ds)
def argWs (l : List (Option PyData)) : List W := l.map fun o => match o with
  | some d => .dat d
  | none => .bor 0
theorem ArgsOk.mono {K : PySem.W.Frag} {F F' : Hp} {o : Option V} {vs : List V} {l : List (Option PyData)} (h : ArgsOk K F o vs l) (e : Ex F F') : ArgsOk K F' o vs l := by
  induction h with
  | nil => exact .nil
  | dat a _ ih => exact .dat (a.mono e) ih
  | bor a _ ih => exact .bor a ih
theorem ArgsOk.length {K : PySem.W.Frag} {F : Hp} {o : Option V} {vs : List V} {l : List (Option PyData)} (h : ArgsOk K F o vs l) : vs.length = l.length := by
  induction h with
  | nil => rfl
  | dat _ _ ih => simp [ih]
  | bor _ _ ih => simp [ih]
theorem ArgsOk.ok {K : PySem.W.Frag} {F H : Hp} {p : Addr} {vs : List V} {l : List (Option PyData)} (h : ArgsOk K F (some (.ref p)) vs l) : (∀ q ∈ (argWs l).zip (vs.map some), OkW K F H [p] q.1 q.2) ∧ ((argWs l).zip (vs.map some)).filterMap own1 = [] := by
  induction h with
  | nil => exact ⟨fun q hq => by simp [argWs] at hq, rfl⟩
  | @dat v d vs ds a _ ih =>
    refine ⟨fun q hq => ?_, ?_⟩
    · have hq' : q ∈ (W.dat d, some v) :: (argWs ds).zip (vs.map some) := hq
      rcases List.mem_cons.mp hq' with rfl | hq'
      · exact ⟨v, rfl, a⟩
      · exact ih.1 q hq'
    · show ((W.dat d, some v) :: (argWs ds).zip (vs.map some)).filterMap own1 = []
      rw [List.filterMap_cons, own_dat]
      exact ih.2
  | @bor v vs ds a _ ih =>
    cases a
    refine ⟨fun q hq => ?_, ?_⟩
    · have hq' : q ∈ (W.bor 0, some (V.ref p)) :: (argWs ds).zip (vs.map some) := hq
      rcases List.mem_cons.mp hq' with rfl | hq'
      · exact ⟨p, rfl, rfl⟩
      · exact ih.1 q hq'
    · show ((W.bor 0, some (V.ref p)) :: (argWs ds).zip (vs.map some)).filterMap own1 = []
      rw [List.filterMap_cons, own_bor]
      exact ih.2
/-- arguments, among them the name of slot i -/
def EvAr (q : Q) (i : Nat) (es : List Expr) (σ : S) (l : List (Option PyData)) (σ' : S) : Prop :=
  ∀ X, q.In X → ∀ vs bd F R H, SM q.g.K σ vs bd F R H → (∃ v, vs[i]? = some (some v)) → ∀ Φ : List V → Hp → Prop, (∀ us F' H', Ex F F' → SM q.g.K σ' vs bd F' R H' → ArgsOk q.g.K F' (vs[i]?.join) us l → Φ us H') → wA X es vs H Φ
theorem er_nil : EvAr q i [] σ [] σ := fun X hX vs bd F R H s _ Φ f => wA_of pa_nil (f [] F H (Ex.refl _) s .nil)
theorem er_dat {l : List (Option PyData)} (h : EvD q e σ d σ1) (hr : EvAr q i es σ1 l σ2) (hs : ∀ env, starEach (e :: es) env = (false, eval e env) :: starEach es env := by intro _; rfl) : EvAr q i (e :: es) σ (some d :: l) σ2 := fun X hX vs bd F R H s hv Φ f =>
  wA_of (pa_cons (pE e) (pA es) (hs _)) (h X hX vs bd F R H s _ fun v F1 H1 e1 s1 h1 => hr X hX vs bd F1 R H1 s1 hv _ fun us F2 H2 e2 s2 h2 => f _ F2 H2 (e1.trans e2) s2 (.dat (h1.mono e2) h2))
theorem er_bor {l : List (Option PyData)} (h : Sl q x i) (hr : EvAr q i es σ l σ2) (hs : ∀ env, starEach (.Name x p :: es) env = (false, eval (.Name x p) env) :: starEach es env := by intro _; rfl) : EvAr q i (.Name x p :: es) σ (none :: l) σ2 := fun X hX vs bd F R H s hv Φ f => by
  obtain ⟨v, ev⟩ := hv
  exact wA_of (pa_cons (h.pe hX) (pA es) (hs _)) ⟨v, ev, hr X hX vs bd F R H s ⟨v, ev⟩ _ fun us F2 H2 e2 s2 h2 => f _ F2 H2 e2 s2 (.bor (by rw [ev]; rfl) h2)⟩
theorem args_SMb {K : PySem.W.Frag} {us : List V} {F R H : Hp} {p : Addr} {c : Cell} {l : List (Option PyData)} (h : ArgsOk K F (some (.ref p)) us l) (fh : Ex F H) (rh : Ex R H) (fr : ∀ a o, R a = some o → F a = none) (hc : CellOk K F H p c) (fp : F p = none) (rp : R p = none) :
    SM K ⟨argWs l, [c]⟩ (us.map some) [p] F R H := by
  obtain ⟨h1, h2⟩ := h.ok (H := H)
  refine ⟨by simp [argWs, h.length], ⟨fh, rh, fr, rfl, h1, fun k p' c' a b => ?_, ?_, fun a ha => ?_⟩⟩
  · cases k with
    | zero =>
      cases a
      cases b
      exact hc
    | succ k => simp at a
  · show ([p] ++ ((argWs l).zip (us.map some)).filterMap own1).Nodup
    rw [h2]; simp
  · have ha' : a ∈ [p] ++ ((argWs l).zip (us.map some)).filterMap own1 := ha
    rw [h2] at ha'
    have e : a = p := by simpa using ha'
    subst e
    exact ⟨fp, rp⟩
theorem ev_callB {Sp : FSpec} {ps : List Str} {l : List (Option PyData)} {c c' : Cell} {c0 : Cell} (h : Fn q x ps Sp) (h0 : σ.cellAt i = some c0) (ha : EvAr q i (e :: es) σ l σ1) (hc : σ1.cellAt i = some c) (hS : Sp (argWs l) [c] (.d d [c'])) (hn : l.length = ps.length := by rfl)
    (hs : ∀ env, starEach (e :: es) env = (false, eval e env) :: starEach es env := by intro _; rfl) (hpl : ∀ env, (backTo pos (starEach es env)).any (·.1) = false := by intro _; rfl) :
    EvD q (.Call (.Name x p) (e :: es) [] pos) σ d (σ1.put i c') := fun X hX vs bd F R H s Φ f => by
  obtain ⟨p0, e0, _, _, _⟩ := s.cell_at h0
  refine wE_of (h.pe hX passNo hs hpl) (ha X hX vs bd F R H s ⟨_, e0⟩ _ fun us F1 H1 e1 s1 hd => ?_)
  refine ⟨by rw [hd.length]; exact hn, ?_⟩
  obtain ⟨p1, e2, hc1, fp, rp⟩ := s1.cell_at hc
  rw [e0] at e2
  cases e2
  rw [e0] at hd
  refine ⟨_, _, [p0], F1, restH F1 H1 [p0], _, hS, by simpa [argWs] using hn, args_SMb hd s1.sim.fh (fun a o e => (restH_some e).2.1) (fun a o e => (restH_some e).1) hc1 fp (restH_in (by simp)), fun v F' H' ex s' hv => ?_⟩
  refine f v F' H' (e1.trans ex) (s1.putc hc e0 ex s'.fh (fun a o ne fa ho => ?_) (s'.bo 0 p0 c' rfl rfl) (s'.out p0 (by simp)).1) hv
  have hr : restH F1 H1 [p0] a = some o := restH_of fa ho (by simpa using ne)
  exact ⟨s'.rh a o hr, s'.fr a o hr⟩

/-! ### isinstance -/
def tyD : PyData → String
  | .none => "NoneType"
  | .bool _ => "bool"
  | .int _ => "int"
  | .str _ => "str"
  | .list _ => "list"
  | .tuple _ => "tuple"
  | .dict _ => "dict"
theorem ty_dp {K : PySem.W.Frag} {F H : Hp} {v : V} {d : PyData} (h : Dp K F v d) (e : Ex F H) : TyX K H v (.type (tyD d)) := by
  cases h with
  | non => exact .base .non
  | bl b => exact .base (.bl b)
  | int i => exact .base (.int i)
  | str x => exact .base (.str x)
  | lst a b =>
    rcases a with (a | ⟨o, a⟩) | ⟨o, its, n, l1, l2, _⟩
    · exact .base (.lst (e _ _ a))
    · exact .base (.frz (e _ _ a))
    · exact .kList l1 l2
  | tup a b =>
    rcases a with (a | ⟨o, a⟩) | ⟨o, its, n, l1, l2, _⟩
    · exact .base (.tup (e _ _ a))
    · exact .fTuple (e _ _ a)
    · exact .kTuple l1 l2
theorem ev_isi {T : String} {r : Bool} {p3 : Pos} (B : Bi q x (.builtin "isinstance")) (BT : Bi q y (.type T)) (he : EvD q e σ d σ1) (hk : kitB (tyD d) T = some r) (hs : ∀ env, starEach [e, .Name y p3] env = (false, eval e env) :: starEach [.Name y p3] env := by intro _; rfl)
    (hpl : ∀ env, (backTo pos (starEach [.Name y p3] env)).any (·.1) = false := by intro _; rfl) : EvD q (.Call (.Name x p) [e, .Name y p3] [] pos) σ (.bool r) σ1 := fun X hX vs bd F R H s Φ f =>
  wE_of (pe_callB call_isi (B.gl.gl hX) (by rw [hX.mg]; exact B.mg) B.bt (pa_cons (pE e) (pa_cons (BT.pe (v := .ty T) rfl hX) pa_nil) (hs _)) B.nn B.nd (hs _) (hpl _)) (he X hX vs bd F R H s _ fun v F1 H1 e1 s1 h1 =>
    ⟨v, .ty T, _, _, r, rfl, .ty T, by rw [hX.K]; exact ty_dp h1 s1.sim.fh, kit_ty hk, f _ F1 H1 e1 s1 (.bl _)⟩)

/-! ### texts -/
theorem ev_join {y : Str} {ys : List Str} {m : Pos} (ha : EvD q a σ (.str y) σ1) (he : EvL q e σ1 (ys.map .str) σ2) (hz : (ys.map (·.length)).sum + ys.length * y.length ≤ 16777216) (hs : ∀ env, starEach [e] env = [(false, eval e env)] := by intro _; rfl)
    (hbase : ∀ env, attributeBase a "join" env (eval a env) = eval a env := by intro _; rfl) (hline : (m.endLine == pos.line) = true := by rfl) : EvD q (.Call (.Attribute a "join" m) [e] [] pos) σ (.str (Txt.join y ys)) σ2 := fun X hX vs bd F R H s Φ f =>
  wE_of (pe_join (pE a) (pE e) (hs _) (hbase _) hline) (ha X hX vs bd F R H s _ fun v F1 H1 e1 s1 h1 => by
    cases h1
    refine ⟨⟨y, rfl⟩, he X hX vs bd F1 R H1 s1 _ fun p xs F2 H2 e2 s2 h2 h3 => ?_⟩
    rw [h3.strs] at h2
    exact ⟨y, p, ys, rfl, rfl, .inl (by rw [hX.K]; exact h2), hz, f _ F2 H2 (e1.trans e2) s2 (.str _)⟩)

/-! ### repr -/
structure Shows (d : PyData) : Prop where
  s : d.showable = true
  z : (∃ i, d = .int i) ∨ d.shown.length ≤ sizeLine
  n : d.hasDict = false
  dp : d.depth ≤ 64
theorem call_repr {X : Cx} (hX : q.In X) : CallR X (.builtin "repr") (fun xs H Q => ∃ v d, xs = [v] ∧ Dp q.g.K H v d ∧ Shows d ∧ Q (.str d.shown) H) := by
  intro pins s σ H xs us Q I r h
  obtain ⟨v, d, rfl, hd, ⟨h1, h2', h3, h4⟩, f⟩ := h
  have h2 : (∀ i, d ≠ .int i) → d.shown.length ≤ sizeLine := fun ne => h2'.elim (fun ⟨i, e⟩ => absurd e (ne i)) id
  obtain ⟨u, rfl, rv⟩ := vals1 r
  have hu : X.A.units + (d.depth + 1) < cLine := by have := hX.room.un; omega
  rw [← hX.K] at hd
  obtain ⟨as_, rd⟩ := hd.reads I d v u rv
  cases rd with
  | none => exact PySem.P.repr_of_none ⟨.str _, H, I.tok _, ⟨_, rfl⟩, f⟩
  | bool b => exact PySem.P.repr_of_bool ⟨.str _, H, I.tok _, ⟨_, rfl⟩, f⟩
  | int i t => exact PySem.P.repr_of_int (of_decide_eq_true h1) ⟨.str _, H, I.tok _, ⟨_, rfl⟩, f⟩
  | str x t => exact PySem.P.repr_of_str ⟨.str _, H, I.tok _, ⟨_, rfl⟩, f⟩ (h2 fun _ z => nomatch z)
  | list a1 a2 a3 a4 => exact repr_of_reads' (.list a1 a2 a3 a4) h1 (PyData.noDict_hsm h3) hX.gu hu (fun _ _ e => e) (fun h' u tk hk => ⟨.str _, H, I.kept hk, ⟨_, rfl⟩, f⟩) (h2 fun _ z => nomatch z)
  | tuple a1 a2 a3 a4 => exact repr_of_reads' (.tuple a1 a2 a3 a4) h1 (PyData.noDict_hsm h3) hX.gu hu (fun _ _ e => e) (fun h' u tk hk => ⟨.str _, H, I.kept hk, ⟨_, rfl⟩, f⟩) (h2 fun _ z => nomatch z)
  | dict a1 a2 a3 a4 a5 => exact absurd h3 (by simp [PyData.hasDict])
theorem ev_repr (B : Bi q x (.builtin "repr")) (he : EvD q e σ d σ1) (hd : Shows d) (hs : ∀ env, starEach [e] env = (false, eval e env) :: starEach [] env := by intro _; rfl) : EvD q (.Call (.Name x p) [e] [] pos) σ (.str d.shown) σ1 := fun X hX vs bd F R H s Φ f =>
  wE_of (B.c1 (fun Y hY => call_repr hY) X hX hs) (he X hX vs bd F R H s _ fun v F1 H1 e1 s1 h1 => ⟨v, d, rfl, h1.mono s1.sim.fh, hd, f _ F1 H1 e1 s1 (.str _)⟩)
end
end TR

set_option Elab.async false
set_option linter.all false
set_option maxRecDepth 100000
set_option maxHeartbeats 2000000
namespace PySem
namespace TRErr
open PySem.W PySem.Calls PyProof.Rows PySem.HandSPX
/-! ### the text of TongueError.__init__ -/
def eA (p1 p2 : Pos) : Arguments := { posonlyargs := [], args := [{ arg := "self", annotation := none, pos := p1 }, { arg := "value", annotation := none, pos := p2 }], vararg := none, kwonlyargs := [], kw_defaults := [], kwarg := none, defaults := [] }
def eB (p0 p1 p2 p3 p4 p5 q1 q2 q3 q4 : Pos) : List Stmt := [.Expr (.Call (.Attribute (.Call (.Name "super" p0) [] [] p1) "__init__" p2) [.Constant (.str "tonguerules") 0 p3] [] p4) p5, .Assign [.Attribute (.Name "self" q1) "value" q2] (.Name "value" q3) q4]
def eS : Scope := { kind := .function, names := [(PySem.Str.ofString "self", .local), (PySem.Str.ofString "value", .local), (PySem.Str.ofString "__class__", .free), (PySem.Str.ofString "super", .globalImplicit)], isGenerator := false, isCoroutine := false, more := [] }
/-- what the written part says of the error class at C (named x), its base at D with the __init__ at fI, whose cell of __class__ is at cc -/
structure ErrTxt (P : Program) (K : Frag) (mg : Str → Option Value) (x : Str) (C D fI cc : Addr) : Prop where
  gC : mg x = some (.ref C)
  cls : ∃ nm q N bs bm sn sub ab col dd k0 k1 k2 k3 k5, K.lookup C = some (excClassObj nm q C N bs bm true sn sub ab col dd k0 k1 k2 k3 k5 "ValueError.__new__") ∧ refsVE bm = true
  sa : findIn K (.ref C) "__setattr__" = some (some (.builtin "object.__setattr__"))
  noN : findIn K (.ref C) "value" = some none
  iC : findIn K (.ref C) "__init__" = some (some (.ref fI))
  tC : typeIn K (.ref fI) = some (.type "function")
  kC : keepIn K (.ref C) = true
  exC : subIn K (.ref C) (.type "BaseException") = some true
  tyC : typeIn K (.ref C) = some (.type "type")
  veC : subIn K (.ref C) (.type "ValueError") = some true
  sup : ks_superIn K C D "__init__" = some (some (.builtin "ValueError.__init__"))
  mD : mroIn K C (.ref D) = some true
  isD : isClsIn K D = true
  op : nsIn K cStatics "thirdparty.any" = some none
  cell : ∃ cl cld csl, K.lookup cc = some ⟨cl, cld, .cell (some (.ref D)), csl⟩
  gS : nsIn K mainGlobals "super" = some none
  top : (P.main.scope.names.lookup ("super" : Str)).isSome = false
  fn : ∃ (oc : Value) (od : Option Addr) (doc pm : Value) (an : Option Addr) (cda : Addr) (ct : Value) (osl : Array (Option Value)) (r1 r2 p0 p1 p2 p3 p4 p5 q1 q2 q3 q4 : Pos),
    K.lookup fI = some ⟨oc, od, .func (ksFn "__init__" "TongueError.__init__" (eA r1 r2) (eB p0 p1 p2 p3 p4 p5 q1 q2 q3 q4) eS .none .none doc pm an (.ref cda) ct cc), osl⟩ ∧ codeIn K (.ref cda) "TongueError.__init__" = true ∧ (p2.endLine == p4.line) = true ∧
      ∃ ccl cdd vs ccs file tf, K.lookup cda = some ⟨ccl, cdd, .fields vs, ccs⟩ ∧ vs[2]? = some (.str file tf) ∧ ((P.main.file : Str) == file) = true
/-- what __init__ leaves of a fresh exception at x -/
structure InitEnd (h h' : Heap) (x C dx t1 : Addr) (v : Value) : Prop where
  keep : ∀ b o, b ≠ x → h.get? b = some o → h'.get? b = some o
  obj : h'.get? x = some { cls := .ref C, dict := some dx, data := .fields #[.ref t1, .none, .none, .none, .bool false, .none] }
  dbig : h.objs.size ≤ dx
  dne : dx ≠ x
  ns : h'.Ns1 dx (fun y => if y = "value" then some v else none)
/-- a made error -/
structure OwnMade (h h' : Heap) (e C d : Addr) (v : Value) : Prop where
  keep : ∀ b o, h.get? b = some o → h'.get? b = some o
  new : h.objs.size ≤ e
  obj : ∃ oe vs, h'.get? e = some oe ∧ oe.cls = .ref C ∧ oe.dict = some d ∧ oe.data = .fields vs ∧ vs[1]? = some .none
  dbig : h.objs.size ≤ d
  dne : d ≠ e
  ns : h'.Ns1 d (fun y => if y = "value" then some v else none)
theorem one_size (v : Value) : [v].length ≤ sizeLine := by
  rw [sizeLine_eq]
  exact (by decide : 1 ≤ 16777216)
theorem boot_super : bootBuiltins "super" = some (.type "super") := by first | rfl | kernel_rfl | decide +kernel
theorem meth_line {o : Expr} {name : Str} {apos pos : Pos} {args : List Expr} {env : Env} (hform : methodCallForm args.length (backTo pos (starEach args env)) [] = true) (hline : (apos.endLine == pos.line) = true) :
    ∃ pl, eval (.Call (.Attribute o name apos) args [] pos) env = (do
      let ov ← attributeBase o name env (eval o env)
      standAt apos.atName
      let (f, first) ← holding [ov] (getMethod ov name pl)
      callWith pos f first (backTo pos (starEach args env)) []) := by
  have hpos : methodCallPos true o env apos pos = pure pos := by unfold methodCallPos; simp [hline]
  refine ⟨?pl, ?_⟩
  case pl => exact (do return (← importBound o env).getD true)
  rw [arm_eval_Call]
  show (do
    let ov ← attributeBase o name env (eval o env)
    standAt apos.atName
    methodCall o name apos pos env ov args.length (backTo pos (starEach args env)) []) = _
  unfold methodCall calleeOf
  rw [hform, hpos]
  rfl
section
variable {prog : Program} {w : World} {A : Around} {E : Value → Shared → Prop} {R : Result → Shared → Prop} {s : Shared} {K : Frag} {mg mb : Str → Option Value} {C D fI cc : Addr} {x : Str}
theorem err_init (T : ErrTxt prog K mg x C D fI cc) {e t0 : Addr} {v : Value} (X : K.In s.heap) (hlim : s.heap.NoLimit) (hg : s.heap.Ns mainGlobals mg) (hb : s.heap.Ns builtinsNs mb) (hbb : mb "super" = some (.type "super"))
    (hx : s.heap.get? e = some (excO C t0)) (hnx : K.lookup e = none) (hroom : A.depth < recursionLimit)
    (hq : ∀ h' tk dx t1, InitEnd s.heap h' e C dx t1 v → R (.ok (.ret .none)) { s with heap := h', toks := tk }) :
    codeAny (model prog w) A (.call (.ref fI) ⟨[.ref e, v], []⟩) R s := by
  obtain ⟨oc, od, doc, pm, an, cda, ct, osl, r1, r2, p0, p1, p2, p3, p4, p5, q1, q2, q3, q4, ho, hcd, hline, ccl, cdd, vs, ccs, file, tf, hcda, hvs, hfile⟩ := T.fn
  obtain ⟨nm, q, N, bs, bm, sn, sub, ab, col, dd, k0, k1, k2, k3, k5, hC, hbm⟩ := T.cls
  obtain ⟨cl, cld, csl, hcell⟩ := T.cell
  have hcl : clsIn K C = some { name := nm, bases := bs, mro := .ref C :: bm, ns := N, qualname := q, hasDict := true, slotNames := sn, subclasses := sub, abstract := ab, collection := col, hasDel := false } := by unfold clsIn; rw [hC] <;> rfl
  refine ks_codeAny_call_defAt (binds := [("self", .ref e), ("value", v)]) hroom (X _ _ ho) rfl hlim (codeRec_of X hcd) rfl (BindsTo.of_eq (by first | rfl | with_unfolding_all rfl)) (show ∀ y ∈ eS.names, y.2 ≠ .cell from by decide +kernel) (fun y hy => ?_) (fun h1 hn k => ?_) rfl rfl rfl
  · rcases List.mem_cons.mp hy with rfl | hy
    · exact (by decide +kernel : eS.names.lookup ("self" : Str) = some .local)
    rcases List.mem_cons.mp hy with rfl | hy
    · exact (by decide +kernel : eS.names.lookup ("value" : Str) = some .local)
    · cases hy
  have X1 : K.In h1 := X.keeps k
  have hx1 := k _ _ hx
  obtain ⟨hp, g, dr, tk, os⟩ := s
  dsimp only at hx hg hb hlim X k hn hq ⊢
  have kS : (callEnv (ksFn "__init__" "TongueError.__init__" (eA r1 r2) (eB p0 p1 p2 p3 p4 p5 q1 q2 q3 q4) eS .none .none doc pm an (.ref cda) ct cc) hp.objs.size fI).kindOf "super" = some .globalImplicit := (by decide +kernel : eS.names.lookup ("super" : Str) = some .globalImplicit)
  have kC : (callEnv (ksFn "__init__" "TongueError.__init__" (eA r1 r2) (eB p0 p1 p2 p3 p4 p5 q1 q2 q3 q4) eS .none .none doc pm an (.ref cda) ct cc) hp.objs.size fI).kindOf "__class__" = some .free := (by decide +kernel : eS.names.lookup ("__class__" : Str) = some .free)
  have kE : (callEnv (ksFn "__init__" "TongueError.__init__" (eA r1 r2) (eB p0 p1 p2 p3 p4 p5 q1 q2 q3 q4) eS .none .none doc pm an (.ref cda) ct cc) hp.objs.size fI).kindOf "self" = some .local := (by decide +kernel : eS.names.lookup ("self" : Str) = some .local)
  have kV : (callEnv (ksFn "__init__" "TongueError.__init__" (eA r1 r2) (eB p0 p1 p2 p3 p4 p5 q1 q2 q3 q4) eS .none .none doc pm an (.ref cda) ct cc) hp.objs.size fI).kindOf "value" = some .local := (by decide +kernel : eS.names.lookup ("value" : Str) = some .local)
  have eL : hp.objs.size ≠ e := Nat.ne_of_gt (Heap.lt_size hx)
  have hsizeL : hp.objs.size < h1.objs.size := hn.lt
  obtain ⟨cdD, hD, _⟩ : ∃ cdD, clsIn K D = some cdD ∧ True := by
    have z : (clsIn K D).isSome = true := T.isD
    cases q : clsIn K D with
    | none => rw [q] at z; cases z
    | some c => exact ⟨c, rfl, trivial⟩
  obtain ⟨oD, hD1, hD2⟩ : ∃ oD, h1.get? D = some oD ∧ oD.data = .cls cdD := by
    unfold clsIn at hD
    split at hD
    · rename_i c d cd' sl ho
      cases hD
      exact ⟨_, X1 _ _ ho, rfl⟩
    · cases hD
  -- super().__init__("tonguerules")
  obtain ⟨pl, hev⟩ := meth_line (o := .Call (.Name "super" p0) [] [] p1) (name := "__init__") (apos := p2) (pos := p4) (args := [.Constant (.str "tonguerules") 0 p3]) (env := callEnv (ksFn "__init__" "TongueError.__init__" (eA r1 r2) (eB p0 p1 p2 p3 p4 p5 q1 q2 q3 q4) eS .none .none doc pm an (.ref cda) ct cc) hp.objs.size fI) rfl hline
  refine ks_wpAt_execs_cons (ks_wpAt_Expr_any (ks_wpAt_MethodCall ?_ hev) rfl rfl)
  refine ks_wpAt_super_base kS kC (by decide +kernel) rfl (X1 _ _ ho) rfl rfl rfl (X1 _ _ hcda) rfl hvs hfile T.top ?_
  refine ks_loadName_global rfl kS (loadGlobal_builtin (hg.keeps k) (mg_none_of X hg T.gS) (hb.keeps k) hbb ⟨rfl, ?_⟩)
  refine wpAny_loadName_free rfl kC rfl ⟨_, X1 _ _ hcell, rfl⟩ ?_
  refine wpAny_loadName_local rfl kE hn rfl ?_
  refine ks_wpAny_isType_cls hD1 hD2 ⟨rfl, ?_⟩
  refine ks_wpAny_call_super hD1 hD2 hx1 rfl (fun c z => nomatch z) (looks_mroIn X1 T.mD) (fun h2 e2 k2 => ?_)
  -- the bound __init__
  have X2 : K.In h2 := X1.keeps k2
  have I2 : InstAt h2 e (excO C t0) C none := ⟨k2 _ _ hx1, rfl, rfl, trivial⟩
  have hm := T.sup
  unfold ks_superIn at hm
  rw [hcl] at hm
  refine kxs_getMethod kxs_ValueError e2 (looks_opaque X2 T.op) (l₀ := .ref C :: bm) (fun A Q E s k q => wpAny_bind ((looks_clsIn X2 hcl) A _ E s k (wpAny_pure q))) rfl X2 hm (I2.type.andThen (looks_subIn X2 T.veC)) (ks_ne X2 I2 hcl) (by decide +kernel) ?_
  have k3 : ∀ b o, h2.get? b = some o → (h2.push (kxs_mw "ValueError.__init__" e)).get? b = some o := fun b o z => Heap.get?_push_of_some _ z
  have hw : (h2.push (kxs_mw "ValueError.__init__" e)).get? h2.objs.size = some (kxs_mw "ValueError.__init__" e) := Heap.get?_push_at rfl rfl
  refine kxs_callWith (i := "ValueError.__init__") (x := e) rfl (evalArgs_plain (spliced_cons (Constant_str (k := 0) (pos := p3) (spliced_nil ⟨hw, ?_⟩))))
  -- its call
  have he3 := k3 _ _ (k2 _ _ hx1)
  refine wpAny_call (codeAny_of_tree ?_)
  show wpAny _ _ (callAny (.ref h2.objs.size) ⟨[_], []⟩) _ _ _
  simp only [callAny]
  refine wpAny_bind (wpAny_load hw ?_)
  simp only [kxs_mw, show (Value.type "method-wrapper" == Value.type "method" || Value.type "method-wrapper" == Value.type "builtin_function_or_method" || Value.type "method-wrapper" == Value.type "method-wrapper") = true by decide, if_true]
  refine KFB.if_so (by decide) ?_
  refine wpAny_bind (check_bound_init PySem.F.excBase_ValueError.toExcCallFacts ((X2.keeps k3) _ _ hC) he3 rfl ?_)
  refine wpAny_bind (wpAny_pure (wpAny_pure ?_))
  refine ⟨plainId_quiet PySem.F.excBase_ValueError.init.plain _, codeAny_builtin PySem.F.excBase_ValueError.initEntry ?_⟩
  refine exc_init_tree (cls := .ref C) (t0 := t0) (dv := none) (c2 := .none) (c3 := .none) (b4 := .bool false) he3 (one_size _) fun h4 k4 he4 _ => ?_
  -- self.value = value
  show wpAt _ _ _ _ _ _ _
  have nLe : hp.objs.size ≠ e := eL
  obtain ⟨oL, esL, epL, hL, hLr⟩ := id hn
  have hn4 : h4.Ns hp.objs.size (fun y => ([("self", .ref e), ("value", v)] : List (Str × Value)).reverse.lookup y) := ⟨oL, esL, epL, k4 _ _ nLe (k3 _ _ (k2 _ _ hL)), hLr⟩
  have old4 : ∀ b o, b ≠ e → hp.get? b = some o → h4.get? b = some o := fun b o hb z => k4 b o hb (k3 _ _ (k2 _ _ (k _ _ z)))
  have X4 : K.In h4 := fun b o z => by
    by_cases hb : b = e
    · rw [hb, hnx] at z
      cases z
    · exact old4 b o hb (X b o z)
  refine wpAt_of_wpAny (wpAny_execs_cons (plainObj_wpAny_Assign_Attribute ?_ rfl))
  refine wpAny_Name (wpAny_loadName_local rfl kV hn4 rfl ?_) (by decide +kernel)
  refine wpAny_Name (wpAny_loadName_local rfl kE hn4 rfl ?_) (by decide +kernel)
  refine set_plain X4 (ox := excRec (.ref C) _ none .none .none (.bool false)) (od := none) ⟨he4, rfl, rfl, trivial⟩ T.sa ?_
  refine exc_osa X4 he4 hcl (show refsVE (.ref C :: bm) = true from hbm) rfl T.noN (fun h5 tk5 dx k5 dn dne hx5 hn5 => ?_)
  show wpAny _ _ (execs _ _) _ _ _
  refine wpAny_execs_nil (hq h5 tk5 dx _ ⟨fun b o hb z => k5 b o hb (old4 b o hb z), hx5, ?_, dne, hn5⟩)
  have z1 : hp.objs.size < h4.objs.size := Heap.lt_size (k4 _ _ nLe (k3 _ _ (k2 _ _ hL)))
  have z2 : h4.objs.size ≤ dx := dn
  exact Nat.le_trans (Nat.le_of_lt z1) z2
theorem err_made (T : ErrTxt prog K mg x C D fI cc) {v : Value} (X : K.In s.heap) (hlim : s.heap.NoLimit) (hg : s.heap.Ns mainGlobals mg) (hb : s.heap.Ns builtinsNs mb) (hbb : mb "super" = some (.type "super")) (hroom : A.depth + 1 < recursionLimit)
    (hq : ∀ h' tk e d, OwnMade s.heap h' e C d v → R (.ok (.ret (.ref e))) { s with heap := h', toks := tk }) :
    codeAny (model prog w) A (.call (.ref C) ⟨[v], []⟩) R s := by
  obtain ⟨nm, q, N, bs, bm, sn, sub, ab, col, dd, k0, k1, k2, k3, k5, hC, hbm⟩ := T.cls
  obtain ⟨hp, g, dr, tk, os⟩ := s
  have k : ∀ b o, hp.get? b = some o → ((hp.push (kdv_tup [v])).push (excO C hp.objs.size)).get? b = some o := fun b o e => Heap.get?_push_of_some _ (Heap.get?_push_of_some _ e)
  have hget : ((hp.push (kdv_tup [v])).push (excO C hp.objs.size)).get? (hp.objs.size + 1) = some (excO C hp.objs.size) := by heap_get
  have hnx : K.lookup (hp.objs.size + 1) = none := by
    cases e : K.lookup (hp.objs.size + 1) with
    | none => rfl
    | some o =>
      have z : hp.get? (hp.objs.size + 1) = some o := X _ _ e
      exact absurd (Nat.lt_of_succ_lt (Heap.lt_size z)) (Nat.lt_irrefl _)
  refine call_own F.excBase_ValueError (fun X => refsVE_contains X bm hbm) (X _ _ hC) (looks_findIn X T.iC) (fun self => bind_fn X self T.tC) (one_size v) ?_
  refine err_init (s := ⟨(hp.push (kdv_tup [v])).push (excO C hp.objs.size), g, dr, tk, os⟩) T (X.keeps k) (hlim.keeps k) (hg.keeps k) (hb.keeps k) hbb hget hnx ?_ fun h' tk' dx t1 ⟨k', hx, dn, dne, hns⟩ => ?_
  · show A.depth + 1 < recursionLimit
    exact hroom
  · have old : ∀ b o, hp.get? b = some o → h'.get? b = some o := fun b o e => k' b o (Nat.ne_of_lt (Nat.lt_succ_of_lt (Heap.lt_size e))) (k b o e)
    have z : hp.objs.size + 1 + 1 ≤ dx := by
      first
        | (simpa only [Heap.size_push] using dn)
        | exact dn
        | (have q := dn; rw [Heap.size_push, Heap.size_push] at q; exact q)
    exact ⟨rfl, hq h' tk' (hp.objs.size + 1) dx ⟨old, Nat.le_succ _, ⟨_, _, hx, rfl, rfl, rfl, rfl⟩, Nat.le_trans (Nat.le_trans (Nat.le_succ _) (Nat.le_succ _)) z, dne, hns⟩⟩
end
end TRErr
end PySem
namespace TR
open PySem PySem.Spec L2
open Evl (Ex)
open PyProof.Rows (envOfC)
/-! ### making and raising an error of the module -/
section
variable {q : Q} {e a b c : Expr} {es : List Expr} {st : Stmt} {sts u v : List Stmt} {σ σ1 σ2 σ3 σ' : S} {d d1 d2 z : PyData} {ds : List PyData} {pos p2 p : Pos} {x y : Str} {i j n : Nat} {C : Addr} {k : Bool}
theorem relO_err {v : V} {v' : Value} (r : RelV v v') (f : Str) : RelO (List.lookup f [(("value" : Str), v)]) (if f = "value" then some v' else none) := by
  by_cases hw : f = "value"
  · subst hw
    rw [if_pos rfl]
    have q : List.lookup ("value" : Str) [(("value" : Str), v)] = some v := by simp [List.lookup]
    rw [q]
    exact r
  · rw [if_neg hw]
    have qw : (f == ("value" : Str)) = false := by simpa using hw
    have q2 : List.lookup f [(("value" : Str), v)] = none := by simp [List.lookup, qw]
    rw [q2]
    trivial
/-- C(e) -/
def tMkErr (C : Addr) (ta : TA) : L2.St → Hp → XK → Prop := fun σ H Q => ta σ H fun vs H1 => ∃ v, vs = [v] ∧ ∀ d, H1 d = none → Q (.ref C) (some d) (upd H1 d (.xd [(("value" : Str), v)]))
theorem pmk_err {X : Cx} {D fI cc : Addr} {a : Expr} {ta : TA} {p pos : Pos} {k : Nat} (T : TRErr.ErrTxt X.prog X.K X.mg x C D fI cc) (hr : Room k X.A) (hk : 1 ≤ k) (ha : PA X [a] ta) (hg : Gl X x) (hd : (x == ("__debug__" : Str)) = false)
    (he : starEach (a :: []) X.env = (false, eval a X.env) :: starEach [] X.env) (hpl : (backTo pos (starEach [] X.env)).any (·.1) = false) :
    PMk X (.Call (.Name x p) [a] [] pos) (tMkErr C ta) := by
  intro pins s σ H Q I h
  refine wpAny_Call_Name_kw (ld_glob I hg T.gC ?_ hd)
  refine PySem.W.callWith_K (h₀ := X.base) I.ok.mod.kin T.kC (thn (ha.run pos pins s σ H _ I h) fun us s1 hh => ?_) he hpl
  obtain ⟨vs, H1, I1, r1, v, ev, q1⟩ := hh
  subst ev
  refine ⟨I1.kIn, ?_⟩
  cases r1 with
  | cons rv rn =>
    rename_i v' us'
    cases rn
    show wpAny _ _ (call (.ref C) [v']) _ _ _
    have hlim := I1.nolimit
    obtain ⟨mb, hb1, hb2⟩ := I1.mod.blt
    have hg1 := I1.mod.glob.keeps I1.bk
    have hb1' := hb1.keeps I1.bk
    obtain ⟨hp, g, dr, tk, os⟩ := s1
    refine wpAny_call (TRErr.err_made T I1.kIn hlim hg1 hb1' ((hb2 _ (by decide)).trans TRErr.boot_super) (by have := hr.dp; omega) fun h' tk' e d M => ?_)
    show MkP X pins σ Q (.ref e) ⟨h', g, dr, tk', os⟩
    obtain ⟨oe, fv, hoe, hc, hd, hdat, h1⟩ := M.obj
    have hns := M.ns
    obtain ⟨G', g1, g2⟩ := restrict h' fun b => decide (b ≠ e)
    have gk : ∀ b, b ≠ e → G'.get? b = h'.get? b := fun b hb => g1 b (decide_eq_true hb)
    have ge : G'.get? e = none := g2 e (by simp)
    have old : ∀ b o, hp.get? b = some o → G'.get? b = some o := fun b o q => (gk b (Nat.ne_of_lt (Nat.lt_of_lt_of_le (Heap.lt_size q) M.new))).trans (M.keep b o q)
    have ob : ObjOk X.prog X.w (upd H1 d (.xd [(("value" : Str), v)])) G' d (.xd [(("value" : Str), v)]) :=
      ⟨_, hns.at (fun o q => (gk d M.dne).trans q), fun f => relO_err rv f⟩
    have J : L2.Inv X pins σ (upd H1 d (.xd [(("value" : Str), v)])) ⟨G', g, dr, tk', os⟩ := I1.laid (t' := tk') old M.dbig ob
    refine ⟨e, oe, fv, ⟨G', g, dr, tk', os⟩, _, .ref C, some d, rfl, J, fun b o q => ?_, ge, hoe, ⟨hc, hd⟩, hdat, h1, ?_, rfl, I1.bare, raises_own T.exC T.tyC, q1 d (I1.hok.fresh M.dbig)⟩
    · by_cases hb : b = e
      · have q' : G'.get? b = some o := q
        rw [hb, ge] at q'; cases q'
      · exact (gk b hb).symm.trans q
    · rw [upd_ne (Ne.symm M.dne)]
      exact I1.hok.fresh M.new
/-- an error class that the module knows by name -/
structure ErrC (q : Q) (x : Str) (C : Addr) : Prop where
  tx : ∃ D fI cc, TRErr.ErrTxt q.g.P q.g.K q.g.mg x C D fI cc
  gl : GlQ q x
  nd : (x == ("__debug__" : Str)) = false
  k1 : 1 ≤ q.k
/-- raise C(e) -/
theorem ex_raise {pos2 : Pos} (T : ErrC q x C) (he : EvD q e σ d σ1) (hs : ∀ env, starEach [e] env = (false, eval e env) :: starEach [] env := by intro _; rfl) (hpl : ∀ env, (backTo pos (starEach [] env)).any (·.1) = false := by intro _; rfl) :
    EvSx q (.Raise (some (.Call (.Name x p) [e] [] pos)) none pos2) σ C d σ1 := fun X hX vs bd F R H s W tk f D => by
  obtain ⟨D', fI, cc, tx⟩ := T.tx
  refine wS_of (ps_raise hX.calm tk (pmk_err (k := q.k) (by rw [hX.prog, hX.K, hX.mg]; exact tx) hX.room T.k1 (pa_cons (pE e) pa_nil (hs _)) (T.gl.gl hX) T.nd (hs _) (hpl _))) (he X hX vs bd F R H s _ fun v F1 H1 e1 s1 h1 => ⟨v, rfl, fun dd hd => ?_⟩)
  have fd := s1.sim.freshF hd
  exact f vs _ _ _ (e1.trans (Ex.new fd)) ⟨s1.ln, s1.sim.lay hd⟩ ⟨dd, v, rfl, upd_same, h1.mono (Ex.new fd)⟩
end
end TR

set_option Elab.async false
set_option linter.all false
set_option maxRecDepth 100000
set_option maxHeartbeats 2000000
namespace TR
open PySem PySem.Spec L2
open Evl (Ex)
open PyProof.Rows (envOfC)
/-! ### try: body, except x as n: m = n. The error is kept in m's slot -/
section
variable {X : Cx} {pins : List (Addr × Obj)} {σ : L2.St} {H : Hp} {s : Shared}
/-- an object that stands untracked, and stood not at the entry, is tracked -/
theorem inv_track {a : Addr} {o : HO} {ob : Obj} (I : L2.Inv X pins σ H s) (ha : s.heap.get? a = some ob) (hd : ∀ v, ob.data ≠ .cell v) (hn : H a = none) (h0 : a ∉ X.ex → X.s_0.heap.get? a = none) (nL : X.env.locals ≠ a) (np : ∀ p ∈ X.pn ++ pins, p.1 ≠ a)
    (new : ObjOk X.prog X.w (upd H a o) s.heap a o) : L2.Inv X pins σ (upd H a o) s := by
  have ne : ∀ {b : Addr} {u : HO}, H b = some u → b ≠ a := fun q z => by rw [z, hn] at q; cases q
  refine { ok := I.ok, os := I.os, bare := I.bare, loc := I.loc, cell := I.cell, len := I.len, hok := L2.HOk.laidN I.hok (fun _ _ e => e) hn new, base := ⟨I.base.keep, I.base.slot, fun b u q n x => ?_, I.base.there, fun b xs q => ?_, fun b u v q => ?_, fun b ps q => ?_⟩, free := ?_, freeC := fun x c e => ?_, pin := fun p hp => ?_ }
  · have hb : b ≠ a := fun z => by
      rw [z] at q x
      rw [h0 x] at q
      cases q
    rw [upd_ne hb]
    exact I.base.free b u q n x
  · have q' := I.base.tups b xs q
    rw [upd_ne (ne q')]; exact q'
  · have q' := I.base.frzs b u v q
    rw [upd_ne (ne q')]; exact q'
  · obtain ⟨more, q'⟩ := I.base.tbls b ps q
    exact ⟨more, by rw [upd_ne (ne q')]; exact q'⟩
  · rw [upd_ne nL]; exact I.free
  · have hc : c ≠ a := fun z => by
      obtain ⟨v, oc, e1, e2⟩ := I.cell x c e
      rw [z, ha] at e1
      cases e1
      exact hd v e2
    rw [upd_ne hc]; exact I.freeC x c e
  · obtain ⟨e1, e2, e3⟩ := I.pin p hp
    exact ⟨e1, by rw [upd_ne (np p hp)]; exact e2, e3⟩
/-- what the clause wishes of the error -/
def wKeep (K : PySem.W.Frag) (c : Value) (i j : Nat) (D : Ends) : WX := fun cls d σ H =>
  PySem.W.exmOne K cls c = some true ∧ ∃ (C dd : Addr), cls = .ref C ∧ d = some dd ∧ ∀ a, H a = none → D.nx (((σ.set i (some (.ref a))).set j (some (.ref a))).set i none) (upd H a (ExV C dd a))
section
variable {X : Cx} {x n m : Str} {T : Addr} {i j : Nat} {body : List Stmt} {np np2 mp ap pos pos' : Pos}
theorem try_keep (hs : X.stack = X.env :: X.outer) (hf : X.env.frame = some X.env.locals) (hN : X.N.Nodup) (hi : X.N[i]? = some n) (hj : X.N[j]? = some m) (ln : X.env.scope.names.lookup n = some .local) (lm : X.env.scope.names.lookup m = some .local) (hg : Gl X x) (hx : (x == ("__debug__" : Str)) = false) (hm : X.mg x = some (.ref T))
    (hn1 : (n == ("__debug__" : Str)) = false) (hn2 : (n == ("__classdict__" : Str)) = false) (hij : i ≠ j)
    (hw : swapsWith (.Name n np2) (some (.Name m mp)) ap.line X.env = pure false) :
    PS X (.Try body [.ExceptHandler (some (.Name x np)) (some n) [.Assign [.Name m mp] (.Name n np2) ap] pos'] [] [] pos)
      (fun D σ H => ∀ pn xe, Takes (X.tr pn xe) (wKeep X.K (.ref T) i j D) → PassesOwn (model X.prog X.w) X.A X.env xe → wSs (X.tr pn xe) body D σ H) := by
  refine ⟨fun pins s σ H D I h => ?_⟩
  have ok := I.ok
  have frames : X.A.frames = some (X.env :: X.outer) := by rw [ok.frames, hs]
  refine wpAny_Try_except (wpAny_mono (h (X.pn ++ pins) (fun e s₁ => wpAny (model X.prog X.w) X.A (noteFrame e X.env) (fun _ s₂ => wpAny (model X.prog X.w) X.A (setFlight e none) (fun _ s₃ =>
    wpAny (model X.prog X.w) X.A (handleBy e X.env [.ExceptHandler (some (.Name x np)) (some n) [.Assign [.Name m mp] (.Name n np2) ap] pos']) (SP X pins D) X.xe s₃) X.xe s₂) X.xe s₁) ?takes PassesOwn.looking [] s (I.toTry _)) (fun f s1 hsp => ?ends) fun _ _ z => z)
  case ends =>
    cases f with
    | next => exact let ⟨σ', H', J, z⟩ := hsp; wpAny_execs_nil ⟨σ', H', J.ofTry ok, z⟩
    | brk => exact let ⟨σ', H', J, z⟩ := hsp; ⟨σ', H', J.ofTry ok, z⟩
    | cont => exact let ⟨σ', H', J, z⟩ := hsp; ⟨σ', H', J.ofTry ok, z⟩
    | ret u => exact let ⟨v, σ', H', J, r, z⟩ := hsp; ⟨v, σ', H', J.ofTry ok, r, z⟩
  case takes =>
    intro u s' xx
    obtain ⟨a, B, sI, pins', σ', H', cls, d, rfl, J', nb, up, sky, na, os, ag, hyes, C, dd, rfl, rfl, goon⟩ := xx
    have J : L2.Inv X pins σ' H' sI := J'.ofTry ok
    have sky' : Sky B (X.env :: X.outer) a (Zc (.ref C) (some dd)) X.env.locals s'.heap := by rw [← hs]; exact sky
    show wpAny (model X.prog X.w) X.A (noteFrame (.ref a) X.env) _ _ _
    refine Sky.land Zc.steady frames hf sky' fun h3 fl3 up3 => ?_
    obtain ⟨oe3, vs3, he3, hz3, hd3⟩ := fl3.there
    have Bn : B.get? a = none := fl3.2.1
    have nfr : a ∉ frs (X.env :: X.outer) := fun mem => by
      obtain ⟨_, o', e', nof⟩ := fl3.2.2.1.mem mem
      rw [he3] at e'
      cases e'
      exact nof _ hd3
    have nL : a ≠ X.env.locals := fun z => nfr (List.mem_filterMap.mpr ⟨X.env, List.mem_cons_self, by rw [hf, z]⟩)
    have nF : a ∉ X.fs := fun mem => by
      obtain ⟨e, he, q⟩ := List.mem_filterMap.mp mem
      exact nfr (List.mem_filterMap.mpr ⟨e, List.mem_cons_of_mem _ he, q⟩)
    -- the error stood nowhere ahead of its making
    have nI : sI.heap.get? a = none := by
      cases q : sI.heap.get? a with
      | none => rfl
      | some o =>
        have z := nb a o q (by rw [hs]; exact nfr)
        rw [Bn] at z
        cases z
    have n0 : a ∉ X.ex → X.s_0.heap.get? a = none := fun hx => by
      cases q : X.s_0.heap.get? a with
      | none => rfl
      | some o =>
        obtain ⟨o', z⟩ := J.base.there a o q hx
        rw [nI] at z
        cases z
    have npin : ∀ p ∈ X.pn ++ pins, p.1 ≠ a := fun p hp z => by
      have z2 := (J.pin p hp).1
      rw [z, nI] at z2
      cases z2
    have J3 : L2.Inv X pins σ' H' { s' with heap := h3 } := J.landed nb fl3.1 (up.trans up3) os ag
    have S3 := J3.suite he3 hd3 na nL nF
    refine wpAny_handleBy_cons (codeAny_handlers_test ?_) fun q => nomatch q
    have LT : PySem.W.Looks (model X.prog X.w) h3 (typeOf (.ref a)) (.ref C) := fun A Q E s k q => wpAny_typeOf_ref (k _ _ he3) (by rw [hz3.1]; exact q)
    refine ld_glob (X := X.suite a ((a, oe3) :: (X.pn ++ pins))) S3 hg hm ((PySem.W.exm_one (M := model X.prog X.w) J3.kIn LT hyes).here ?_) hx
    refine codeAny_handlers_suite_as (HandSPX.lands_againZ fl3 fun h4 fl4 up4 => ?_)
    have J4 : L2.Inv X pins σ' H' { s' with heap := h4 } := J.landed nb fl4.1 ((up.trans up3).trans up4) os ag
    obtain ⟨oe4, vs4, he4, hz4, hd4⟩ := fl4.there
    have S4 := J4.suite he4 hd4 na nL nF
    refine store_ok (X := X.suite a ((a, oe4) :: (X.pn ++ pins))) (v := .ref a) S4 hN hi (.inl ln) rfl (fun s5 S5 => ?_) (.inr ln)
    have hlt : i < σ'.length := by rw [J.len]; exact (List.getElem?_eq_some_iff.mp hi).1
    have read : PS (X.suite a ((a, oe4) :: (X.pn ++ pins))) (.Assign [.Name m mp] (.Name n np2) ap) (tAsg (tVar i) (gName j)) :=
      ps_set (X := X.suite a ((a, oe4) :: (X.pn ++ pins))) hN hj (.inl lm) (pe_var hi (.inl ln) hn1 hn2) hw (.inr lm)
    refine wpAny_mono ((pss_one read).run [] s5 _ H' { nx := fun σ6 H6 => σ6 = (σ'.set i (some (.ref a))).set j (some (.ref a)) ∧ H6 = H', rt := fun _ _ => False } S5 ⟨.ref a, by rw [List.getElem?_set_self hlt], rfl, rfl⟩) (fun f s6 hsp => ?_) fun _ _ z => False.elim z
    cases f with
    | brk => exact False.elim (let ⟨_, _, _, z⟩ := hsp; z)
    | cont => exact False.elim (let ⟨_, _, _, z⟩ := hsp; z)
    | ret u => exact False.elim (let ⟨_, _, _, _, _, z⟩ := hsp; z)
    | next =>
      obtain ⟨σ6, H6, S6, rfl, rfl⟩ := hsp
      have held : s6.heap.get? a = some oe4 := (S6.pin (a, oe4) (List.mem_append_left _ List.mem_cons_self)).1
      have new : ∀ h', (h' : Heap).get? a = some oe4 → ObjOk X.prog X.w (upd H6 a (ExV C dd a)) h' a (ExV C dd a) := fun h' e => ⟨⟨oe4, vs4, e, hz4, hd4⟩, ⟨oe4, e⟩, fun _ _ ⟨o, v, q, r⟩ k => ⟨o, v, k o q, r⟩⟩
      have J6 := inv_track (S6.unsuite ok) held (fun v z => by rw [hd4] at z; cases z) na n0 (Ne.symm nL) npin (new _ held)
      exact gone_ok J6 hN hi ln fun s7 J7 => ⟨_, _, J7, goon a na⟩
end
end
end TR
namespace TR
open PySem PySem.Spec L2
open Evl (Ex)
open PyProof.Rows (envOfC)
section
variable {q : Q} {e a b c : Expr} {es : List Expr} {st : Stmt} {sts u v : List Stmt} {σ σ1 σ2 σ3 σ' : S} {d d1 d2 z : PyData} {ds : List PyData} {pos p2 p : Pos} {x y : Str} {i j n : Nat} {C T : Addr} {xC : Str} {k : Bool} {out : Out}
theorem Q.In.tr {X : Cx} (h : q.In X) {pn : List (Addr × Obj)} {xe : Value → Shared → Prop} (hp : PassesOwn (model X.prog X.w) X.A X.env xe) : q.In (X.tr pn xe) :=
  { prog := h.prog, w := h.w, K := h.K, mg := h.mg, base := h.base, N := h.N, nd := h.nd, sc := h.sc, calm := h.calm, room := h.room, gu := h.gu, fn := h.fn, pass := fun _ => hp, stk := h.stk }
/-- the words of the clause: x names the class at T, n (slot i) the error, m (slot j) keeps it -/
structure TryW (q : Q) (x n m : Str) (T : Addr) (i j : Nat) : Prop where
  d : q.d = true
  gl : GlQ q x
  nd : (x == ("__debug__" : Str)) = false
  mg : q.g.mg x = some (.ref T)
  hi : q.N[i]? = some n
  hj : q.N[j]? = some m
  ln : q.sc.names.lookup n = some .local
  lm : q.sc.names.lookup m = some .local
  n1 : (n == ("__debug__" : Str)) = false
  n2 : (n == ("__classdict__" : Str)) = false
  ne : i ≠ j
theorem TryW.ps {nm m : Str} {np np2 mp ap pos' : Pos} (h : TryW q x nm m T i j) {X : Cx} (hX : q.In X) (hw : ∀ env, swapsWith (.Name nm np2) (some (.Name m mp)) ap.line env = pure false) :
    PS X (.Try sts [.ExceptHandler (some (.Name x np)) (some nm) [.Assign [.Name m mp] (.Name nm np2) ap] pos'] [] [] pos)
      (fun D σ H => ∀ pn xe, Takes (X.tr pn xe) (wKeep X.K (.ref T) i j D) → PassesOwn (model X.prog X.w) X.A X.env xe → wSs (X.tr pn xe) sts D σ H) :=
  try_keep (hX.stk h.d).1 (hX.stk h.d).2 hX.nd (by rw [hX.N]; exact h.hi) (by rw [hX.N]; exact h.hj) (by rw [hX.sc]; exact h.ln) (by rw [hX.sc]; exact h.lm) (h.gl.gl hX) h.nd (by rw [hX.mg]; exact h.mg) h.n1 h.n2 h.ne (hw _)
theorem es_tryN {nm m : Str} {np np2 mp ap pos' : Pos} (h : TryW q x nm m T i j) (hb : EvB q sts σ out) (hw : ∀ env, swapsWith (.Name nm np2) (some (.Name m mp)) ap.line env = pure false := by intro _; rfl) :
    EvS q (.Try sts [.ExceptHandler (some (.Name x np)) (some nm) [.Assign [.Name m mp] (.Name nm np2) ap] pos'] [] [] pos) σ out := fun X hX vs bd F R H s D f =>
  wS_of (h.ps hX hw) fun pn xe tk hp => hb (X.tr pn xe) (hX.tr hp) vs bd F R H s D f
theorem es_tryX {nm m : Str} {np np2 mp ap pos' : Pos} (h : TryW q x nm m T i j) (hb : EvBx q sts σ (He.ga q.g.K xC) d σ1) (hC : PySem.W.exmOne q.g.K (.ref (He.ga q.g.K xC)) (.ref T) = some true) (hw : ∀ env, swapsWith (.Name nm np2) (some (.Name m mp)) ap.line env = pure false := by intro _; rfl) :
    EvS q (.Try sts [.ExceptHandler (some (.Name x np)) (some nm) [.Assign [.Name m mp] (.Name nm np2) ap] pos'] [] [] pos) σ (.nx (((σ1.set i .un).set j (.exc xC d)).set i .un)) := fun X hX vs bd F R H s D f =>
  wS_of (h.ps hX hw) fun pn xe tk hp => hb (X.tr pn xe) (hX.tr hp) vs bd F R H s _ tk (fun vs' F' H' o ex s' ⟨dd, v, e1, e2, e3⟩ => by
    subst e1
    refine ⟨by rw [hX.K]; exact hC, He.ga q.g.K xC, dd, rfl, rfl, fun a ha => ?_⟩
    have fa := s'.sim.freshF ha
    have s1 : SM q.g.K σ1 vs' bd (upd F' a (ExV (He.ga q.g.K xC) dd a)) R (upd H' a (ExV (He.ga q.g.K xC) dd a)) := ⟨s'.ln, s'.sim.lay ha⟩
    have s2 := SM.store (i := i) (w := .un) (o := some (.ref a)) s1.ln (s1.sim.push own_un trivial)
    have s3 := SM.store (i := j) (w := .exc xC d) (o := some (.ref a)) s2.ln (s2.sim.push own_exc ⟨a, dd, v, rfl, upd_same, (Ex.new fa) _ _ e2, e3.mono (Ex.new fa)⟩)
    have s4 := SM.store (i := i) (w := .un) (o := none) s3.ln (s3.sim.push own_un trivial)
    exact f _ _ _ (ex.trans (Ex.new fa)) s4) D
/-! ### the kept error is asked -/
/-- what the class at C says, for asking its instances -/
structure ErrK (K : PySem.W.Frag) (C : Addr) : Prop where
  c : ExcC K C
  cl : (PySem.W.clsIn K C).isSome = true
  no : PySem.W.findIn K (.ref C) "value" = some none
theorem SM.exc {K : PySem.W.Frag} {vs : L2.St} {bd : List Addr} {F R H : Hp} (s : SM K σ vs bd F R H) (h : σ.ws[i]? = some (.exc xC d)) : ∃ a dd v, vs[i]? = some (some (.ref a)) ∧ H a = some (ExV (He.ga K xC) dd a) ∧ H dd = some (.xd [(("value" : Str), v)]) ∧ Dp K F v d := by
  obtain ⟨o, e, _, a, dd, v, rfl, h1, h2, h3⟩ := s.at_ h
  exact ⟨a, dd, v, e, s.sim.fh _ _ h1, s.sim.fh _ _ h2, h3⟩
theorem exV_inst {X : Cx} {pins : List (Addr × Obj)} {σ : L2.St} {H : Hp} {s : Shared} {a dd : Addr} {v : V} (I : L2.Inv X pins σ H s) (ha : H a = some (ExV C dd a)) (hd : H dd = some (.xd [(("value" : Str), v)])) :
    ∃ oe od u, PySem.W.InstAt s.heap a oe C (some od) ∧ PySem.W.lookIn "value" od = some (some u) ∧ RelV v u := by
  have xa : ObjOk X.prog X.w H s.heap a (ExV C dd a) := I.hok a _ ha
  obtain ⟨⟨oe, fs, h1, h2, h3⟩, _, _⟩ := xa
  have xd : ObjOk X.prog X.w H s.heap dd (.xd [(("value" : Str), v)]) := I.hok dd _ hd
  obtain ⟨mA, hns, hr⟩ := xd
  obtain ⟨od, ho, hl⟩ := lookIn_ns hns
  have l : List.lookup ("value" : Str) [(("value" : Str), v)] = some v := by simp [List.lookup]
  obtain ⟨u, hu, ru⟩ := RelO.some_of (v := v) (o := mA "value") (by rw [← l]; exact hr "value")
  exact ⟨oe, od, u, ⟨h1, h2.1, by unfold PySem.W.notCls; rw [h3] <;> rfl, by rw [h2.2]; exact ho⟩, by rw [hl, hu], ru⟩
theorem call_isX {X : Cx} (EK : ErrK X.K C) : CallR X (.builtin "isinstance") (fun xs H Q => ∃ (a dd : Addr) (v c : V) (cv : Value) (b : Bool), xs = [.ref a, c] ∧ H a = some (ExV C dd a) ∧ H dd = some (.xd [(("value" : Str), v)]) ∧ (∀ u, RelV c u → u = cv) ∧ PySem.W.kitOne X.K (.ref C) cv = some b ∧ Q (.bl b) H) := by
  intro pins s σ H xs us Q I r h
  obtain ⟨a, dd, v, c, cv, b, rfl, h1, h2, hcv, e, z⟩ := h
  cases r with
  | cons rx rr =>
    cases rr with
    | cons rt rr =>
      cases rr
      cases rx
      have ec := hcv _ rt
      subst ec
      obtain ⟨oe, od, u, J, _, _⟩ := exV_inst I h1 h2
      exact PySem.W.kia_one (PySem.W.kitx_exc EK.cl EK.c.hg EK.c.hk EK.c.hs EK.c.ha EK.c.hn EK.c.ht EK.c.hm) I.kIn J e (fun z => nomatch z) fun tk => ⟨.bl b, H, I.kept (t' := tk) fun _ _ z => z, rfl, z⟩
/-- isinstance(m, y): m keeps an error of the class at C, y names the class at T -/
theorem ev_isiE {m : Str} {r : Bool} {p3 p4 : Pos} (B : Bi q x (.builtin "isinstance")) (EK : ErrK q.g.K (He.ga q.g.K xC)) (hs' : Sl q m i) (hi : σ.ws[i]? = some (.exc xC d)) (gy : GlQ q y) (ny : (y == ("__debug__" : Str)) = false) (my : q.g.mg y = some (.ref T)) (hk : PySem.W.kitOne q.g.K (.ref (He.ga q.g.K xC)) (.ref T) = some r)
    (hs : ∀ env, starEach [.Name m p4, .Name y p3] env = (false, eval (.Name m p4) env) :: starEach [.Name y p3] env := by intro _; rfl)
    (hpl : ∀ env, (backTo pos (starEach [.Name y p3] env)).any (·.1) = false := by intro _; rfl) : EvD q (.Call (.Name x p) [.Name m p4, .Name y p3] [] pos) σ (.bool r) σ := fun X hX vs bd F R H s Φ f => by
  obtain ⟨a, dd, v, e1, h1, h2, _⟩ := s.exc hi
  refine wE_of (pe_callB (call_isX (C := He.ga q.g.K xC) (by rw [hX.K]; exact EK)) (B.gl.gl hX) (by rw [hX.mg]; exact B.mg) B.bt (pa_cons (hs'.pe hX) (pa_cons (pe_glob (v := .ref T) (u := .ref T) (gy.gl hX) (by rw [hX.mg]; exact my) rfl ny) pa_nil) (hs _)) B.nn B.nd (hs _) (hpl _)) ?_
  exact ⟨.ref a, e1, a, dd, v, .ref T, .ref T, r, rfl, h1, h2, fun u z => z, by rw [hX.K]; exact hk, f _ F H (Ex.refl _) s (.bl _)⟩
/-- m.value -/
theorem ev_valE {m : Str} {p4 : Pos} (EK : ErrK q.g.K (He.ga q.g.K xC)) (hs' : Sl q m i) (hi : σ.ws[i]? = some (.exc xC d)) (hb : ∀ env, attributeBase (.Name m p4) "value" env (eval (.Name m p4) env) = eval (.Name m p4) env := by intro _; rfl) :
    EvD q (.Attribute (.Name m p4) "value" pos) σ d σ := fun X hX vs bd F R H s Φ f => by
  obtain ⟨a, dd, v, e1, h1, h2, h3⟩ := s.exc hi
  intro pins st I
  refine attr_of (hb _) (thn ((hs'.pe hX).run pins st vs H (fun w H' => w = .ref a ∧ H' = H) I ⟨.ref a, e1, rfl, rfl⟩) fun u s1 hh => ?_)
  obtain ⟨w, H1, I1, rx, rfl, rfl⟩ := hh
  obtain rfl : u = Value.ref a := rx
  obtain ⟨oe, od, w, J, hl, rw_⟩ := exV_inst I1 h1 h2
  exact HandSPX.exc_get I1.kIn J (by rw [hX.K]; exact EK.c.hg) (by rw [hX.K]; exact EK.c.hk) (by rw [hX.K]; exact EK.c.hs) (PySem.W.findObj_own (by rw [hX.K]; exact EK.c.hd) (by rw [hX.K]; exact EK.no) rfl hl) (handed_of rw_) ⟨v, H1, I1.tok _, rw_, f v F H1 (Ex.refl _) s h3⟩
end
end TR

set_option Elab.async false
set_option linter.all false
set_option maxRecDepth 100000
set_option maxHeartbeats 2000000
/-! the facts of a law's module, read off the heap behind its top: defs and names by HeadHook2, and the error classes with the base's __init__ (a method that has a cell) -/
namespace TR
open PySem PySem.Spec L2
open He (ba)
abbrev InW : Type := Option (Str × Str × Arguments × FuncBody × Scope × Addr × List Str × Addr)
def inW (K : PySem.W.Frag) (a : Addr) : InW := match K.lookup a with
  | some ⟨_, _, .func fd, _⟩ => some (fd.name, fd.qualname, fd.params, fd.body, fd.scope, fd.globals, fd.closure.map (·.1), fd.builtins)
  | _ => none
def cellAd (K : PySem.W.Frag) (a : Addr) : Addr := match K.lookup a with
  | some ⟨_, _, .func fd, _⟩ => (match fd.closure with
    | [(_, c)] => c
    | _ => 0)
  | _ => 0
/-- the rest of what is told of the __init__ at a, D the class in whose text it stands -/
def initB (file : Str) (K : PySem.W.Frag) (D a : Addr) : Bool := match K.lookup a with
  | some ⟨_, _, .func fd, _⟩ => (match fd.defaults, fd.kwdefaults, fd.code with
    | .none, .none, .ref c => PySem.W.codeIn K (.ref c) "TongueError.__init__" && ((match K.lookup c with
      | some ⟨_, _, .fields vs, _⟩ => (match vs[2]? with
        | some (Value.str f _) => file == f
        | _ => false)
      | _ => false) && (match K.lookup (cellAd K a) with
      | some ⟨_, _, .cell (some (.ref d)), _⟩ => decide (d = D)
      | _ => false))
    | _, _, _ => false)
  | _ => false
def excB (K : PySem.W.Frag) (C : Addr) : Bool := match K.lookup C with
  | some ⟨.type t, _, .cls cd, ⟨[_, _, _, _, some (.builtin n), _]⟩⟩ => decide (t = "type") && (decide (n = "ValueError.__new__") && (cd.hasDict && (!cd.hasDel && (match cd.mro with
    | .ref c :: bm => decide (c = C) && HandSPX.refsVE bm
    | _ => false))))
  | _ => false
theorem excB_ok {K : PySem.W.Frag} {C : Addr} (h : excB K C = true) : ∃ nm q N bs bm sn sub ab col dd k0 k1 k2 k3 k5, K.lookup C = some (excClassObj nm q C N bs bm true sn sub ab col dd k0 k1 k2 k3 k5 "ValueError.__new__") ∧ HandSPX.refsVE bm = true := by
  unfold excB at h
  split at h
  · rename_i t dd cd k0 k1 k2 k3 n k5 ho
    obtain ⟨h1, g1⟩ := ba h
    obtain ⟨h2, g2⟩ := ba g1
    obtain ⟨h3, g3⟩ := ba g2
    obtain ⟨h4, g4⟩ := ba g3
    clear h g1 g2 g3
    obtain rfl := of_decide_eq_true h1
    obtain rfl := of_decide_eq_true h2
    obtain ⟨nm, bs, mro, ns, qn, hd, sn, sub, ab, col, del⟩ := cd
    dsimp only at g4 h3 h4
    subst h3
    have h4' : del = false := by cases del <;> simp_all
    subst h4'
    cases mro with
    | nil => cases g4
    | cons a bm =>
      cases a with
      | ref c =>
        obtain ⟨h5, h6⟩ := ba g4
        obtain rfl := of_decide_eq_true h5
        exact ⟨nm, qn, ns, bs, bm, sn, sub, ab, col, dd, k0, k1, k2, k3, k5, ho, h6⟩
      | _ => cases g4
  · cases h
/-- what is told of the error class x of the base y -/
def errB (K : PySem.W.Frag) (y x : Str) : Bool :=
  let C := He.ga K x
  let D := He.ga K y
  let fI := He.ma K D "__init__"
  excB K C && (decide (PySem.W.nsIn K mainGlobals x = some (some (.ref C))) && (decide (PySem.W.findIn K (.ref C) "__setattr__" = some (some (.builtin "object.__setattr__"))) && (decide (PySem.W.findIn K (.ref C) "value" = some none) && (decide (PySem.W.findIn K (.ref C) "__init__" = some (some (.ref fI))) &&
    (PySem.W.keepIn K (.ref C) && (decide (PySem.W.subIn K (.ref C) (.type "BaseException") = some true) && (decide (PySem.W.typeIn K (.ref C) = some (.type "type")) && (decide (PySem.W.subIn K (.ref C) (.type "ValueError") = some true) &&
    (decide (PySem.W.ks_superIn K C D "__init__" = some (some (.builtin "ValueError.__init__"))) && (decide (PySem.W.mroIn K C (.ref D) = some true) && (decide (PySem.W.findIn K (.ref C) "__getattribute__" = some (some (.builtin "BaseException.__getattribute__"))) &&
    (decide (PySem.W.findIn K (.ref C) "__getattr__" = some none) && (PySem.W.hasDictIn K C && (decide (PySem.W.findIn K (.ref C) "__class__" = some (some (.builtin "object.__class__"))) && (decide (PySem.W.mroIn K C (.type "object") = some true) &&
    ((PySem.W.clsIn K C).isSome && decide (PySem.W.exmOne K (.ref C) (.ref D) = some true)))))))))))))))))
/-- what is told of the module's errors: the base y, the classes xs -/
def errsB (file : Str) (y : Str) (xs : List Str) (K : PySem.W.Frag) : Bool :=
  initB file K (He.ga K y) (He.ma K (He.ga K y) "__init__") && (decide (PySem.W.typeIn K (.ref (He.ma K (He.ga K y) "__init__")) = some (.type "function")) && (PySem.W.isClsIn K (He.ga K y) && (decide (PySem.W.nsIn K PySem.cStatics "thirdparty.any" = some none) && (decide (PySem.W.nsIn K mainGlobals "super" = some none) &&
    (decide (PySem.W.specialIn K (.builtin "object.__class__") "__get__" = some (some (.builtin "getset_descriptor.__get__"))) && (decide (PySem.W.takesIn K (.builtin "object.__class__") = some true) && (decide (PySem.W.nsIn K mainGlobals y = some (some (.ref (He.ga K y)))) &&
    (xs.all (fun x => errB K y x) && xs.all fun x => xs.all fun z => decide (PySem.W.kitOne K (.ref (He.ga K x)) (.ref (He.ga K z)) = some (decide (x = z)))))))))))
/-! ### the Hook -/
def asE (g : Addr → Option Obj) : Nat → List Addr
  | 0 => [mainGlobals, PySem.cStatics]
  | n + 1 => He.growD g (asE g n)
abbrev AlE : Type := (Bool × He.AlD) × InW
def obsE (fa : List He.Fa) (fn : List He.DefD) (xb : PySem.W.Frag → Bool) (ia : PySem.W.Frag → Addr) (K : PySem.W.Frag) : AlE := ((xb K, He.obsD fa fn K), inW K (ia K))
def valE (fn : List He.DefD) (iv : InW) : AlE := ((true, He.valD fn), iv)
def obsEG (n : Nat) (fa : List He.Fa) (fn : List He.DefD) (xb : PySem.W.Frag → Bool) (ia : PySem.W.Frag → Addr) (g : Addr → Option Obj) : AlE := obsE fa fn xb ia (He.frG g (asE g n))
/-- what stands behind the head -/
structure SaysE (fa : List He.Fa) (fn : List He.DefD) (xb : PySem.W.Frag → Bool) (ia : PySem.W.Frag → Addr) (iv : InW) (K : PySem.W.Frag) : Prop where
  xb : xb K = true
  d : He.SaysD fa fn K
  i : inW K (ia K) = iv
def hookE (n : Nat) (fa : List He.Fa) (fn : List He.DefD) (xb : PySem.W.Frag → Bool) (ia : PySem.W.Frag → Addr) (iv : InW) : PySem.W.Hook where
  α := AlE
  obs := fun s => obsEG n fa fn xb ia s.heap.get?
  val := fun _ => valE fn iv
  says := fun _ h => ∃ K : PySem.W.Frag, K.In h ∧ SaysE fa fn xb ia iv K
  of := fun _ _ e => ⟨_, He.frG_in, congrArg (fun z : AlE => z.1.1) e, congrArg (fun z : AlE => z.1.2) e, congrArg (fun z : AlE => z.2) e⟩
  keeps := fun _ _ _ ⟨K, hK, c⟩ k => ⟨K, PySem.W.Frag.In.keeps hK k, c⟩
theorem obsEG_eq {n : Nat} {fa : List He.Fa} {fn : List He.DefD} {xb : PySem.W.Frag → Bool} {ia : PySem.W.Frag → Addr} {iv : InW} {g : Addr → Option Obj} {s : Shared} (h : ∀ a, g a = s.heap.get? a) : obsEG n fa fn xb ia g = (hookE n fa fn xb ia iv).obs s := by
  have e : g = s.heap.get? := funext h
  rw [e] <;> rfl
/-! ### what is read of it -/
section
variable {P : Program} {K : PySem.W.Frag} {file y x : Str} {xs : List Str} {mg : Str → Option Value}
theorem err_of (hfile : P.main.file = file) (htop : (P.main.scope.names.lookup ("super" : Str)).isSome = false) (h : errsB file y xs K = true) {ar : Arguments} {bd : List Stmt} {sc : Scope}
    (hi : inW K (He.ma K (He.ga K y) "__init__") = some (("__init__" : Str), ("TongueError.__init__" : Str), ar, FuncBody.stmts bd, sc, mainGlobals, [("__class__" : Str)], builtinsNs))
    {r1 r2 p0 p1 p2 p3 p4 p5 q1 q2 q3 q4 : Pos} (har : ar = TRErr.eA r1 r2) (hbd : bd = TRErr.eB p0 p1 p2 p3 p4 p5 q1 q2 q3 q4) (hsc : sc = TRErr.eS) (hln : (p2.endLine == p4.line) = true) (hx : x ∈ xs) (hm : mg x = some (.ref (He.ga K x))) :
    TRErr.ErrTxt P K mg x (He.ga K x) (He.ga K y) (He.ma K (He.ga K y) "__init__") (cellAd K (He.ma K (He.ga K y) "__init__")) := by
  unfold errsB at h
  obtain ⟨i1, h⟩ := ba h
  obtain ⟨i2, h⟩ := ba h
  obtain ⟨i3, h⟩ := ba h
  obtain ⟨i4, h⟩ := ba h
  obtain ⟨i5, h⟩ := ba h
  obtain ⟨i6, h⟩ := ba h
  obtain ⟨i7, h⟩ := ba h
  obtain ⟨i8, h⟩ := ba h
  obtain ⟨h, _⟩ := ba h
  have e := List.all_eq_true.mp h x hx
  unfold errB at e
  obtain ⟨c1, e⟩ := ba e
  obtain ⟨c2, e⟩ := ba e
  obtain ⟨c3, e⟩ := ba e
  obtain ⟨c4, e⟩ := ba e
  obtain ⟨c5, e⟩ := ba e
  obtain ⟨c6, e⟩ := ba e
  obtain ⟨c7, e⟩ := ba e
  obtain ⟨c8, e⟩ := ba e
  obtain ⟨c9, e⟩ := ba e
  obtain ⟨c10, e⟩ := ba e
  obtain ⟨c11, e⟩ := ba e
  unfold initB at i1
  unfold inW at hi
  have main : (∃ cl cld csl, K.lookup (cellAd K (He.ma K (He.ga K y) "__init__")) = some ⟨cl, cld, .cell (some (.ref (He.ga K y))), csl⟩) ∧
      ∃ (oc : Value) (od : Option Addr) (doc pm : Value) (an : Option Addr) (cda : Addr) (ct : Value) (osl : Array (Option Value)),
    K.lookup (He.ma K (He.ga K y) "__init__") = some ⟨oc, od, .func (PySem.W.ksFn "__init__" "TongueError.__init__" ar bd sc .none .none doc pm an (.ref cda) ct (cellAd K (He.ma K (He.ga K y) "__init__"))), osl⟩ ∧ PySem.W.codeIn K (.ref cda) "TongueError.__init__" = true ∧
      ∃ ccl cdd vs ccs file tf, K.lookup cda = some ⟨ccl, cdd, .fields vs, ccs⟩ ∧ vs[2]? = some (.str file tf) ∧ ((P.main.file : Str) == file) = true := by
    cases lk : K.lookup (He.ma K (He.ga K y) "__init__") with
    | none => rw [lk] at hi; cases hi
    | some o =>
      obtain ⟨oc, od, dt, osl⟩ := o
      rw [lk] at hi i1
      cases dt with
      | func fd =>
        obtain ⟨n1, n2, n3, n4, n5, n6, n7, n8, n9, n10, n11, n12, n13, n14, n15⟩ := fd
        dsimp only at hi i1
        simp only [Option.some.injEq, Prod.mk.injEq] at hi
        obtain ⟨g1, g2, g3, g4, g5, g6, g7, g8⟩ := hi
        subst g1 g2 g3 g4 g5 g6 g8
        cases n8 with
        | none =>
          cases n9 with
          | none =>
            cases n13 with
            | ref c =>
              dsimp only at i1
              obtain ⟨j1, j2⟩ := ba i1
              obtain ⟨j3, j4⟩ := ba j2
              have hcl : ∃ cc, n7 = [(("__class__" : Str), cc)] := by
                cases n7 with
                | nil => cases g7
                | cons a r =>
                  cases r with
                  | nil =>
                    obtain ⟨a1, a2⟩ := a
                    simp only [List.map_cons, List.map_nil, List.cons.injEq, and_true] at g7
                    exact ⟨a2, by rw [g7]⟩
                  | cons b r => simp at g7
              obtain ⟨cc, rfl⟩ := hcl
              have hcc : cellAd K (He.ma K (He.ga K y) "__init__") = cc := by
                unfold cellAd
                rw [lk]
              rw [hcc] at j4 ⊢
              refine ⟨?_, oc, od, n10, n11, n12, c, n14, osl, rfl, j1, ?_⟩
              · split at j4
                · rename_i cl cld d csl hq
                  have := of_decide_eq_true j4
                  subst this
                  exact ⟨cl, cld, csl, hq⟩
                · cases j4
              · split at j3
                · rename_i ccl cdd vs ccs hq
                  split at j3
                  · rename_i f tf hv
                    exact ⟨ccl, cdd, vs, ccs, f, tf, hq, hv, by rw [hfile]; exact j3⟩
                  · cases j3
                · cases j3
            | _ => cases i1
          | _ => cases i1
        | _ => cases i1
      | _ => cases hi
  obtain ⟨hcell, oc, od, doc, pm, an, cda, ct, osl, f1, f2, f3⟩ := main
  subst har hbd hsc
  exact { gC := hm, cls := excB_ok c1, sa := of_decide_eq_true c3, noN := of_decide_eq_true c4, iC := of_decide_eq_true c5, tC := of_decide_eq_true i2, kC := c6, exC := of_decide_eq_true c7, tyC := of_decide_eq_true c8, veC := of_decide_eq_true c9, sup := of_decide_eq_true c10, mD := of_decide_eq_true c11, isD := i3, op := of_decide_eq_true i4, cell := hcell, gS := of_decide_eq_true i5, top := htop, fn := ⟨oc, od, doc, pm, an, cda, ct, osl, r1, r2, p0, p1, p2, p3, p4, p5, q1, q2, q3, q4, f1, f2, hln, f3⟩ }
/-- the error class x is asked -/
theorem errK_of (h : errsB file y xs K = true) (hx : x ∈ xs) : ErrK K (He.ga K x) ∧ PySem.W.exmOne K (.ref (He.ga K x)) (.ref (He.ga K y)) = some true := by
  unfold errsB at h
  obtain ⟨i1, h⟩ := ba h
  obtain ⟨i2, h⟩ := ba h
  obtain ⟨i3, h⟩ := ba h
  obtain ⟨i4, h⟩ := ba h
  obtain ⟨i5, h⟩ := ba h
  obtain ⟨i6, h⟩ := ba h
  obtain ⟨i7, h⟩ := ba h
  obtain ⟨i8, h⟩ := ba h
  obtain ⟨h, _⟩ := ba h
  have e := List.all_eq_true.mp h x hx
  unfold errB at e
  obtain ⟨c1, e⟩ := ba e
  obtain ⟨c2, e⟩ := ba e
  obtain ⟨c3, e⟩ := ba e
  obtain ⟨c4, e⟩ := ba e
  obtain ⟨c5, e⟩ := ba e
  obtain ⟨c6, e⟩ := ba e
  obtain ⟨c7, e⟩ := ba e
  obtain ⟨c8, e⟩ := ba e
  obtain ⟨c9, e⟩ := ba e
  obtain ⟨c10, e⟩ := ba e
  obtain ⟨c11, e⟩ := ba e
  obtain ⟨c12, e⟩ := ba e
  obtain ⟨c13, e⟩ := ba e
  obtain ⟨c14, e⟩ := ba e
  obtain ⟨c15, e⟩ := ba e
  obtain ⟨c16, e⟩ := ba e
  obtain ⟨c17, c18⟩ := ba e
  exact ⟨⟨⟨of_decide_eq_true c12, of_decide_eq_true c13, of_decide_eq_true c7, c14, of_decide_eq_true c15, of_decide_eq_true i6, of_decide_eq_true i7, of_decide_eq_true c16⟩, c17, of_decide_eq_true c4⟩, of_decide_eq_true c18⟩
theorem kit_of (h : errsB file y xs K = true) {z : Str} (hx : x ∈ xs) (hz : z ∈ xs) : PySem.W.kitOne K (.ref (He.ga K x)) (.ref (He.ga K z)) = some (decide (x = z)) := by
  unfold errsB at h
  have h := (ba (ba (ba (ba (ba (ba (ba (ba (ba h).2).2).2).2).2).2).2).2).2
  exact of_decide_eq_true (List.all_eq_true.mp (List.all_eq_true.mp h x hx) z hz)
end
end TR

set_option Elab.async false
set_option linter.all false
set_option maxRecDepth 100000
set_option maxHeartbeats 2000000
/-! the module's facts for the rules; a law's end -/
namespace TR
open PySem PySem.Spec L2
open Evl (Ex)
open PyProof.Rows hiding St
/-! ### the module -/
structure MG (fa : List He.Fa) (fn : List He.DefD) (xb : PySem.W.Frag → Bool) (ia : PySem.W.Frag → Addr) (iv : InW) (g : G) : Prop where
  c : SaysE fa fn xb ia iv g.K
  glo : ∀ x, (He.Fa.glo x).ok g.K = true → g.mg x = some (.ref (He.ga g.K x))
  free : ∀ x, (He.Fa.free x).ok g.K = true → g.mg x = none
  int : ∀ x i, (He.Fa.int x i).ok g.K = true → ∃ t, g.mg x = some (.int i t)
  str : ∀ x z, (He.Fa.str x z).ok g.K = true → ∃ t, g.mg x = some (.str z t)
theorem MG.of {fa : List He.Fa} {fn : List He.DefD} {xb : PySem.W.Frag → Bool} {ia : PySem.W.Frag → Addr} {iv : InW} {g : G} {h : Heap} (X : g.K.In h) (N : h.Ns mainGlobals g.mg) (c : SaysE fa fn xb ia iv g.K) : MG fa fn xb ia iv g :=
  ⟨c, fun _ e => He.glo_ok X N e, fun _ e => He.free_ok X N e, fun _ _ e => He.int_ok X N e, fun _ _ e => He.str_ok X N e⟩
/-- a def of the module keeps its promise, of level j -/
structure FnM (g : G) (j : Nat) (x : Str) (ps : List Str) (Sp : FSpec) : Prop where
  ex : ∃ f fd, FnG g (L2.CX g.P g.w) j f fd ps (spF g.K ps.length Sp) ∧ Binds g.K fd ps [] ∧ g.mg x = some (.ref f) ∧ PySem.W.keepIn g.K (.ref f) = true ∧ ∃ oc od osl, g.K.lookup f = some ⟨oc, od, .func fd, osl⟩
theorem FnM.fn {g : G} {j : Nat} {x : Str} {ps : List Str} {Sp : FSpec} (h : FnM g j x ps Sp) {q : Q} (hq : q.g = g) (hj : j ≤ q.k) (gl : GlQ q x) (nd : (x == ("__debug__" : Str)) = false) : Fn q x ps Sp := by
  subst hq
  obtain ⟨f, fd, a, b, c, d, _⟩ := h.ex
  exact ⟨⟨j, f, fd, hj, a, b, c, d⟩, gl, nd⟩
theorem FnM.of {g : G} {nm qual x : Str} {params : Arguments} {body : List Stmt} {sc : Scope} {N ps : List Str} {k : Nat} {Sp : FSpec} (F : ∃ fd, FunD g.K nm qual params body sc [] [] (He.ga g.K x) fd) (Sc : FnScope N ps sc) (hm : g.mg x = some (.ref (He.ga g.K x)))
    (hb : ∀ (kV doc pm : Value) (an : Option Addr) (cdv ct : Value) (us : List Value), us.length = ps.length → bindArgs (PySem.W.fnOf nm qual params body sc .none kV doc pm an cdv ct) ⟨us, []⟩ = pure (ps.zip us))
    (h : ∀ ws bs res, Sp ws bs res → ws.length = ps.length → EvFn (qOf g N sc k) body ws bs res) : FnM g (k + 1) x ps Sp := by
  obtain ⟨fd, F⟩ := F
  obtain ⟨oc, od, dV, kV, doc, pm, an, cdv, ct, osl, _, lk, _⟩ := F.ex
  exact ⟨_, fd, fn_ok F Sc h, FunD.bindsN F hb, hm, F.kp, oc, od, osl, lk⟩
/-- the law's def: its script -/
def spLaw (n : Nat) : FSpec := fun ws bs res => ∃ ns : List Int, ns.length ≤ n ∧ ws = [.dat (.list (ns.map .int))] ∧ bs = [] ∧ res = .d (.bool true) []
theorem callG {P : Program} {w : World} {K : PySem.W.Frag} {mg mb : Str → Option Value} {k m : Nat} {fa a : Addr} {fd : FuncData} {x : Str} {s₁ : Shared} {vs : List Value} {ns : List Int}
    (KX : K.In s₁.heap) (hns : s₁.heap.Ns mainGlobals mg) (hb : s₁.heap.Ns builtinsNs mb) (hbb : ∀ x : Str, x ≠ "__name__" → mb x = bootBuiltins x) (hlim : s₁.heap.NoLimit) (hg : s₁.gens = #[])
    (ha : s₁.heap.get? a = some { cls := .type "list", data := .seq vs.toArray }) (hi : IntsAre vs ns) (hm : ns.length ≤ m) (hl : ns.length ≤ sizeLine) (hr : Room k callerA)
    (F : ∀ base : Heap, FnG ⟨P, w, K, mg, base⟩ (L2.CX P w) k fa fd [x] (spF K 1 (spLaw m))) (hbind : BindsTo s₁ fd ⟨[.ref a], []⟩ [(x, .ref a)]) :
    codeAny (model P w) callerA (.call (.ref fa) ⟨[.ref a], []⟩) (fun r s' => r = .ok (.ret (.bool true)) ∧ OldK s₁.heap s'.heap ∧ s'.os = s₁.os ∧ AllBare s'.gens) s₁ := by
  have rv := vals_ints hi
  have lenV := hi.length
  have notdict : ∀ {H : Hp} {b : Addr} {mm : Str → Option Value}, (∀ b, H b ≠ none → b = a) → s₁.heap.Ns b mm → (hidT s₁.heap H).Ns b mm := fun {H b mm} hA hn => by
    obtain ⟨o, es, ep, e, d, r⟩ := hn
    refine ⟨o, es, ep, hidT_get e ?_, d, r⟩
    cases q : H b with
    | none => rfl
    | some u =>
      have eb : b = a := hA b (by rw [q]; simp)
      rw [eb, ha] at e
      cases e
      exact absurd (show Data.seq vs.toArray _ = Data.dict es ep from d) (fun z => nomatch z)
  -- an abstract heap that tracks the script at most
  have core : ∀ H : Hp, (∀ b, H b = none ∨ ∃ o xs, H b = some (.frz o (.lst xs))) → SqL K H a (ns.map V.int) → HOk P w H s₁.heap → (∀ b, H b ≠ none → b = a) → (H a ≠ none → K.lookup a = none) →
      codeAny (model P w) callerA (.call (.ref fa) ⟨[.ref a], []⟩) (fun r s' => r = .ok (.ret (.bool true)) ∧ OldK s₁.heap s'.heap ∧ s'.os = s₁.os ∧ AllBare s'.gens) s₁ := by
    intro H hO hS hok hA hK
    have kb : K.In (hidT s₁.heap H) := fun b o e => hidT_get (KX b o e) (by
      cases q : H b with
      | none => rfl
      | some u =>
        have eb : b = a := hA b (by rw [q]; simp)
        rw [eb, hK (by rw [← eb, q]; simp)] at e
        cases e)
    obtain ⟨mc, l1, l2⟩ := hlim
    have e0 : Env0 P w K mg (hidT s₁.heap H) callerA [] s₁ H := ⟨rfl, ⟨kb, notdict hA hns, ⟨mb, notdict hA hb, hbb⟩, ⟨mc, notdict hA l1, l2⟩⟩, fun b o e => of_hidT e, Nat.le_of_eq (hidT_size _ _), trivial, (fun b z => nomatch z), hok, .of_eq hg⟩
    have dp : Dp K H (.ref a) (.list (ns.map .int)) := .lst hS .of_ints
    have sp : spF K 1 (spLaw m) [.ref a] H (fun v _ => v = .bl true) fun _ _ _ => False :=
      ⟨_, _, [], H, fun _ => none, _, ⟨ns, hm, rfl, rfl, rfl⟩, rfl, ⟨rfl, ⟨Ex.refl _, (fun _ _ z => nomatch z), (fun _ _ z => nomatch z), rfl, fun q hq => by
        have hq' : q = (W.dat (.list (ns.map .int)), some (V.ref a)) := by simpa using hq
        subst hq'
        exact ⟨_, rfl, dp⟩, (fun k p c z => by simp at z), List.nodup_nil, (fun p (z : p ∈ ([] : List Addr)) => nomatch z)⟩⟩, fun v F' H' _ _ hd => by cases hd; rfl⟩
    refine codeAny_mono ((F (hidT s₁.heap H)).go callerA [] s₁ H ⟨[.ref a], []⟩ [.ref a] [.ref a] _ _ hr rfl e0 hbind (.cons rfl .nil) sp) fun r s' z => ?_
    cases r with
    | error e =>
      obtain ⟨_, _, _, _, _, _, _, _, _, _, _, _, z⟩ := z
      exact z.elim
    | ok fl =>
      cases fl with
      | ret u =>
        obtain ⟨v, H', os, bare, un, hok', r', rfl⟩ := z
        obtain rfl : u = Value.bool true := r'
        refine ⟨rfl, OldK.of_keep fun b o e => ?_, os, bare⟩
        rcases hO b with q | ⟨ob, xs, q⟩
        · exact un.keep b o e q (fun z => nomatch z) (fun z => nomatch z)
        · obtain ⟨e1, _⟩ := hok b _ q
          obtain ⟨e2, _⟩ := hok' b _ (un.frzs b ob _ q)
          rw [e] at e1
          cases e1
          exact e2
      | _ => exact z.elim
  cases hk : K.lookup a with
  | some o =>
    have e := KX a o hk
    rw [ha] at e
    cases e
    exact core (fun _ => none) (fun _ => .inl rfl) (.inr ⟨_, vs.toArray, _, hk, rfl, rfl, rfl, by rw [List.size_toArray, lenV]; exact hl, by simpa using rv⟩) (fun b u z => nomatch z) (fun b z => absurd rfl z) fun z => absurd rfl z
  | none =>
    refine core (fun b => if b = a then some (.frz { cls := .type "list", data := .seq vs.toArray } (.lst (ns.map V.int))) else none) (fun b => ?_) (.inl (.inr ⟨_, if_pos rfl⟩)) (fun b u z => ?_) (fun b z => ?_) fun _ => hk
    · by_cases c : b = a
      · exact .inr ⟨_, _, if_pos c⟩
      · exact .inl (if_neg c)
    · by_cases c : b = a
      · have z' := (if_pos c).symm.trans z
        cases z'
        subst c
        exact ⟨ha, by rw [List.length_map]; exact hl, vs, _, rv, ha⟩
      · exact absurd ((if_neg c).symm.trans z) (fun y => nomatch y)
    · by_cases c : b = a
      · exact c
      · exact absurd (if_neg c) z
/-- a law holds where its def keeps the promise -/
theorem walkG {l : PySem.W.OpenLaw} {n k : Nat} {q : Program} {loose : List Str} {XP : (Str → Option Value) → Heap → Prop} {d : DefRec} {x : Str} {fa : List He.Fa} {fn : List He.DefD} {xb : PySem.W.Frag → Bool} {ia : PySem.W.Frag → Addr} {iv : InW} {hn0 : Nat}
    (hn : l.most = some n) (hn2 : n ≤ sizeLine) (hdf : d.params.defaults = []) (hr : Room k callerA) (hd : d.name = ("law" : Str))
    (F : ∀ g : G, g.P = l.prog → MG fa fn xb ia iv g → FnM g k "law" [x] (spLaw n)) :
    PySem.W.WalkO q loose XP (hookE hn0 fa fn xb ia iv).says l.row.toRowW d [] (fun f vs => PySem.call f vs) := by
  refine Att.attach_call hn hdf fun w s₀ s₁ mg mb f o pm cd doc a vs ns Gd Y ho hdat hcd hmg hobj hints hlen hg => ?_
  obtain ⟨K, KX, c⟩ := Y
  rw [hd] at hmg
  have hF := fun base : Heap => (F ⟨l.prog, w, K, mg, base⟩ rfl (MG.of KX Gd.T.g c)).ex
  obtain ⟨f0, fd0, G0, B0, m0, k0, oc0, od0, osl0, lk0⟩ := hF s₁.heap
  have e0 : f0 = f := by
    have z := (show mg "law" = some (.ref f0) from m0).symm.trans hmg
    cases z
    rfl
  subst e0
  refine callG KX Gd.T.g Gd.T.b Gd.T.builtins Gd.T.nolimit hg hobj hints hlen (Nat.le_trans hlen hn2) hr (fun base => ?_) (B0 s₁ [.ref a] KX rfl)
  obtain ⟨f1, fd1, G1, B1, m1, k1, oc1, od1, osl1, lk1⟩ := hF base
  have e1 : f1 = f0 := by
    have z := (show mg "law" = some (.ref f1) from m1).symm.trans hmg
    cases z
    rfl
  subst e1
  have e2 := (show K.lookup f1 = _ from lk1).symm.trans lk0
  cases e2
  exact G1
end TR

set_option Elab.async false
set_option linter.all false
set_option maxRecDepth 100000
set_option maxHeartbeats 2000000
namespace TR
open PySem PySem.Spec L2
open Evl (Ex)
open PyProof.Rows hiding St
section
variable {q : Q} {e a b c : Expr} {es : List Expr} {st : Stmt} {sts u v : List Stmt} {σ σ1 σ2 σ3 σ' : S} {d d1 d2 d3 z : PyData} {ds ds1 ds2 es' : List PyData} {pos p2 p : Pos} {x y : Str} {i j n : Nat} {C : Addr} {k : Bool}
/-! ### read backward -/
theorem eo_rev {k : Nat} {p1 p3 : Pos} (h : EvL q e σ ds σ1) : EvO q (.Subscript e (.Slice none none (some (.UnaryOp .USub (.Constant (.int 1) k p1) p2)) p3) pos) σ ds.reverse σ1 := fun X hX vs bd F R H s Φ f =>
  wE_of (pe_revL (pE e)) (h X hX vs bd F R H s _ fun p xs F' H' ex s' h1 h2 => ⟨p, xs, rfl, by rw [hX.K]; exact h1, fun r hr => f r F' _ ex s'.ln (s'.sim.newOwn hr h2.reverse)⟩)
def revS (y : Str) : Str := ⟨y.cps.toList.reverse.toArray⟩
theorem revS_picked (y : Str) : ((Builtin.Str.strSliceIndices none none (-1) y.length).filterMap (y.cps[·]?)).toArray = y.cps.toList.reverse.toArray := by
  have e : Builtin.Str.strSliceIndices none none (-1) y.length = sliceRange ((y.length : Int) - 1) (-1) (-1) := by
    unfold Builtin.Str.strSliceIndices
    rfl
  rw [e, PySem.W.krv_sliceRange, PySem.W.krv_range, List.filterMap_reverse]
  have e2 : y.length = y.cps.size := rfl
  rw [e2, PySem.W.krv_all]
theorem ev_revS {y : Str} {k : Nat} {p1 p3 : Pos} (h : EvD q e σ (.str y) σ1) (hz : y.length ≤ sizeLine) : EvD q (.Subscript e (.Slice none none (some (.UnaryOp .USub (.Constant (.int 1) k p1) p2)) p3) pos) σ (.str (revS y)) σ1 := fun X hX vs bd F R H s Φ f => by
  intro pins st I
  refine Subscript_ (thn (h X hX vs bd F R H s (fun w H' => w = .str y ∧ ∃ F', Ex F F' ∧ SM q.g.K σ1 vs bd F' R H') (fun v F' H' ex s' hd => by cases hd; exact ⟨rfl, F', ex, s'⟩) pins st I) fun v s1 ⟨w, H1, I1, r1, ew, F', ex, s'⟩ => ?_)
  subst ew
  obtain ⟨t, rfl⟩ := r1
  have hst : PO X (some (.UnaryOp .USub (.Constant (.int 1) k p1) p2)) (tPart (tUn (rU fun i => .int (-i)) (tC (.int 1)))) := po_some (pe_un un_neg pe_int)
  refine wpAny_Slice (thn (po_none.run pins s1 vs H1 (fun o H2 => o = none ∧ H2 = H1) I1 ⟨rfl, rfl⟩) fun vl s2 ⟨l, H2, I2, pl, el, e2⟩ => ?_)
  subst el e2
  refine thn (po_none.run pins s2 vs H2 (fun o H3 => o = none ∧ H3 = H2) I2 ⟨rfl, rfl⟩) fun vu s3 ⟨u, H3, I3, pu, eu, e3⟩ => ?_
  subst eu e3
  refine thn (hst.run pins s3 vs H3 (fun o H4 => o = some (-1) ∧ H4 = H3) I3 ⟨1, rfl, -1, rfl, rfl, rfl⟩) fun vst s4 ⟨o, H4, I4, ps, eo, e4⟩ => ?_
  subst eo e4
  have I5 : L2.Inv X pins vs H4 { s4 with heap := s4.heap.push { cls := .type "slice", data := .fields #[vl, vu, vst] } } := I4.kept (t' := s4.toks) fun b ob q => Heap.get?_push_of_some _ q
  cases pl
  cases pu
  cases ps with
  | int i tk =>
  show wpAny (model X.prog X.w) X.A (subscriptTail e (.Slice none none (some (.UnaryOp .USub (.Constant (.int 1) k p1) p2)) p3) (.str y t) (.ref s4.heap.objs.size)) _ X.xe _
  refine tail_any (ops := [.ref s4.heap.objs.size, .str y t]) (typeIs_str _ _ _) PySem.F.slot_str_getitem.lookup ?_ (by with_unfolding_all rfl)
  refine wpAny_getItem_str_slice (l := none) (u := none) (st := some (-1, tk)) ⟨_, Heap.get?_push_size _ rfl, rfl, rfl⟩ rfl ?_
  have len : (revS y).length ≤ sizeLine := by
    show y.cps.toList.reverse.toArray.size ≤ sizeLine
    rw [List.size_toArray, List.length_reverse, Array.length_toList]
    exact hz
  show Made.post (if ((-1 : Int) == 1 && (Builtin.Str.strSliceIndices none none (-1) y.length).length == y.length) = true then Made.val (.str y t) else Made.str ⟨((Builtin.Str.strSliceIndices none none (-1) y.length).filterMap (y.cps[·]?)).toArray⟩) _ _
  rw [if_neg (by simp), revS_picked]
  exact ⟨len, .str (revS y), H4, I5.tok _, ⟨_, rfl⟩, f _ F' H4 ex s' (.str _)⟩
/-! ### the greater, the lesser of two -/
theorem ev_max2 {i j : Int} (B : Bi q x (.builtin "max")) (ha : EvD q a σ (.int i) σ1) (hb : EvD q b σ1 (.int j) σ2) (hs : ∀ env, starEach [a, b] env = (false, eval a env) :: starEach [b] env := by intro _; rfl) (hs2 : ∀ env, starEach [b] env = (false, eval b env) :: starEach [] env := by intro _; rfl)
    (hpl : ∀ env, (backTo pos (starEach [b] env)).any (·.1) = false := by intro _; rfl) : EvD q (.Call (.Name x p) [a, b] [] pos) σ (.int (if j > i then j else i)) σ2 := fun X hX vs bd F R H s Φ f =>
  wE_of (pe_callB (call_max2 hX.calm) (B.gl.gl hX) (by rw [hX.mg]; exact B.mg) B.bt (pa_cons (pE a) (pa_cons (pE b) pa_nil (hs2 _)) (hs _)) B.nn B.nd (hs _) (hpl _)) (ha X hX vs bd F R H s _ fun v F1 H1 e1 s1 h1 => hb X hX vs bd F1 R H1 s1 _ fun w F2 H2 e2 s2 h2 => by
    cases h1
    cases h2
    exact ⟨i, j, rfl, f _ F2 H2 (e1.trans e2) s2 (.int _)⟩)
theorem ev_min2 {i j : Int} (B : Bi q x (.builtin "min")) (ha : EvD q a σ (.int i) σ1) (hb : EvD q b σ1 (.int j) σ2) (hs : ∀ env, starEach [a, b] env = (false, eval a env) :: starEach [b] env := by intro _; rfl) (hs2 : ∀ env, starEach [b] env = (false, eval b env) :: starEach [] env := by intro _; rfl)
    (hpl : ∀ env, (backTo pos (starEach [b] env)).any (·.1) = false := by intro _; rfl) : EvD q (.Call (.Name x p) [a, b] [] pos) σ (.int (if j < i then j else i)) σ2 := fun X hX vs bd F R H s Φ f =>
  wE_of (pe_callB (call_min2 hX.calm) (B.gl.gl hX) (by rw [hX.mg]; exact B.mg) B.bt (pa_cons (pE a) (pa_cons (pE b) pa_nil (hs2 _)) (hs _)) B.nn B.nd (hs _) (hpl _)) (ha X hX vs bd F R H s _ fun v F1 H1 e1 s1 h1 => hb X hX vs bd F1 R H1 s1 _ fun w F2 H2 e2 s2 h2 => by
    cases h1
    cases h2
    exact ⟨i, j, rfl, f _ F2 H2 (e1.trans e2) s2 (.int _)⟩)
/-! ### a slot's list against a list -/
theorem SM.listDp {K : PySem.W.Frag} {vs : L2.St} {bd : List Addr} {F R H : Hp} (s : SM K σ vs bd F R H) (h : σ.lst i = some ds) : ∃ p, vs[i]? = some (some (.ref p)) ∧ Dp K H (.ref p) (.list ds) := by
  obtain ⟨p, xs, e, h1, h2⟩ := s.lst_ h
  exact ⟨p, e, .lst h1 (h2.mono s.sim.fh)⟩
theorem cmpN {y : Str} {r : Bool} {G : PyData → PyData → Bool} (h : Sl q y i) (h0 : σ.lst i = some ds1) (hb : EvL q b σ es' σ1) (h1 : σ1.lst i = some ds) (s1 : SeqAt.shaped (.list ds) = true) (s2 : SeqAt.shaped (.list es') = true) (hr : G (.list ds) (.list es') = r) :
    ∀ X, q.In X → ∀ vs bd F R H, SM q.g.K σ vs bd F R H → ∀ (Φ : VK), (∀ F' H', Ex F F' → SM q.g.K σ1 vs bd F' R H' → Φ (.bl r) H') → tOp (fun x y H Q => ∃ d e, Dp X.K H x d ∧ Dp X.K H y e ∧ SeqAt.shaped d = true ∧ SeqAt.shaped e = true ∧ Q (.bl (G d e)) H) (wE X (.Name y p)) (wE X b) vs H Φ := fun X hX vs bd F R H s Φ f => by
  obtain ⟨p0, e0, _⟩ := s.listDp h0
  refine wE_of (h.pe hX) ⟨_, e0, hb X hX vs bd F R H s _ fun r' xs F1 H1 e1 s1' g1 g2 => ?_⟩
  obtain ⟨p1, e2, dp1⟩ := s1'.listDp h1
  rw [e0] at e2
  cases e2
  rw [hX.K]
  exact ⟨_, _, dp1, .lst g1 (g2.mono s1'.sim.fh), s1, s2, by rw [hr]; exact f F1 H1 e1 s1'⟩
theorem ec_eqN {y : Str} (h : Sl q y i) (h0 : σ.lst i = some ds1) (hb : EvL q b σ es' σ1) (h1 : σ1.lst i = some ds) (s1 : SeqAt.shaped (.list ds) = true) (s2 : SeqAt.shaped (.list es') = true) : EvC q .Eq (.Name y p) b σ (PyData.eqv (.list ds) (.list es')) σ1 :=
  ⟨fun X hX => ⟨_, op_eqD (hu64 hX), nobehind _ (by decide) (by decide), cmpN (G := PyData.eqv) h h0 hb h1 s1 s2 rfl X hX⟩⟩
theorem ec_neN {y : Str} (h : Sl q y i) (h0 : σ.lst i = some ds1) (hb : EvL q b σ es' σ1) (h1 : σ1.lst i = some ds) (s1 : SeqAt.shaped (.list ds) = true) (s2 : SeqAt.shaped (.list es') = true) : EvC q .NotEq (.Name y p) b σ (!PyData.eqv (.list ds) (.list es')) σ1 :=
  ⟨fun X hX => ⟨_, op_neD (hu64 hX), nobehind _ (by decide) (by decide), cmpN (G := fun d e => !PyData.eqv d e) h h0 hb h1 s1 s2 rfl X hX⟩⟩
/-! ### swapped stores: the second is a new list -/
theorem es_parO {pt : Pos} {px py : Pos} {kt k2 : Nat} {pt2 : Pos} (hx : Ss q x i) (hy : Ss q y j) (hij : i ≠ j) (lx : q.sc.names.lookup x = some .local) (ly : q.sc.names.lookup y = some .local) (ha : EvD q a σ d1 σ1) (hb : EvO q b σ1 ds σ2)
    (hw : ∀ env, env.scope = q.sc → swappedStores [.Tuple [.Name x px, .Name y py] kt pt] (.Tuple [a, b] k2 pt2) env = pure (some [x, y])) (hs : ∀ env, swapsWithSole [.Tuple [.Name x px, .Name y py] kt pt] (.Tuple [a, b] k2 pt2) pos.line env = pure false := by intro _; rfl)
    (hs1 : ∀ env, starEach [a, b] env = (false, eval a env) :: starEach [b] env := by intro _; rfl) (hs2 : ∀ env, starEach [b] env = (false, eval b env) :: starEach [] env := by intro _; rfl) :
    EvS q (.Assign [.Tuple [.Name x px, .Name y py] kt pt] (.Tuple [a, b] k2 pt2) pos) σ (.nx ((σ2.set j (.own (.lst ds))).set i (.dat d1))) := fun X hX vs bd F R H s D f => by
  refine wS_of (ps_par hX.calm hX.nd (by rw [hX.N]; exact hx.ix) (by rw [hX.N]; exact hy.ix) hij (by rw [hX.sc]; exact lx) (by rw [hX.sc]; exact ly) (pa_cons (pE a) (pa_cons (pE b) pa_nil (hs2 _)) (hs1 _)) (hw _ hX.sc) (hs _)) (ha X hX vs bd F R H s _ fun v F1 H1 e1 s1 h1 => hb X hX vs bd F1 R H1 s1 _ fun p F2 H2 e2 ln s2 => ?_)
  refine ⟨_, _, rfl, ?_⟩
  have s3 := SM.store (i := j) ln s2
  have s4 := SM.store (i := i) s3.ln (s3.sim.pushD (h1.mono e2))
  rw [List.set_comm _ _ hij]
  exact f _ F2 H2 (e1.trans e2) s4
/-! ### three names -/
def tPar3 (i j n : Nat) (ta : TA) : TS := fun D σ H => ta σ H fun vs H1 => ∃ v w z, vs = [v, w, z] ∧ D.nx (((σ.set n (some z)).set j (some w)).set i (some v)) H1
theorem ps_par3 {X : Cx} {i j n : Nat} {x y z : Str} {a b c : Expr} {ta : TA} {px py pz pt pos : Pos} {kt k2 pt2} (hc : X.calm = true) (hN : X.N.Nodup) (hi : X.N[i]? = some x) (hj : X.N[j]? = some y) (hn : X.N[n]? = some z)
    (hx : X.env.scope.names.lookup x = some .local) (hy : X.env.scope.names.lookup y = some .local) (hz : X.env.scope.names.lookup z = some .local) (ha : PA X [a, b, c] ta)
    (hw : swappedStores [.Tuple [.Name x px, .Name y py, .Name z pz] kt pt] (.Tuple [a, b, c] k2 pt2) X.env = pure (some [x, y, z]))
    (hs : swapsWithSole [.Tuple [.Name x px, .Name y py, .Name z pz] kt pt] (.Tuple [a, b, c] k2 pt2) pos.line X.env = pure false) :
    PS X (.Assign [.Tuple [.Name x px, .Name y py, .Name z pz] kt pt] (.Tuple [a, b, c] k2 pt2) pos) (tPar3 i j n ta) := by
  refine ⟨fun pins s σ H D I h => ?_⟩
  rw [exec_Assign_arm]
  refine wpAny_bind (wpAny_standAt ?_)
  rw [hs]
  refine wpAny_bind (wpAny_pure ?_)
  rw [if_neg (by decide)]
  refine wpAny_bind (Tuple_ (thn (ha.run _ pins s σ H _ I h) fun us s1 hh => ?_))
  obtain ⟨vs, H1, I1, r1, v, w, t, ev, q1⟩ := hh
  subst ev
  obtain ⟨u1, u2, u3, rfl, r1, r2, r3⟩ : ∃ u1 u2 u3, us = [u1, u2, u3] ∧ RelV v u1 ∧ RelV w u2 ∧ RelV t u3 := by
    cases r1 with
    | cons a r1 =>
      cases r1 with
      | cons b r1 =>
        cases r1 with
        | cons c r1 =>
          cases r1
          exact ⟨_, _, _, rfl, a, b, c⟩
  refine wpAny_newObj_type ?_ (by show 3 ≤ sizeLine; decide)
  have I2 := I1.kept (h' := s1.heap.push { cls := .type "tuple", data := .seq [u1, u2, u3].toArray }) (t' := s1.toks) fun b o e => Heap.get?_push_of_some _ e
  rw [hw]
  refine wpAny_bind (wpAny_pure ?_)
  show wpAny (model X.prog X.w) X.A (do rule "assign.swapped-stores"; let items ← unpackItems (.ref s1.heap.objs.size) 3 none; assignInOrder [fun v => bindName X.env z v, fun v => bindName X.env y v, fun v => bindName X.env x v] items.reverse; pure Flow.next) _ _ _
  refine wpAny_bind (wpAny_rule (wpAny_bind (unpackItems_tuple (items := #[u1, u2, u3]) (I.ok.hd hc) (IsTup.new s1.heap _) fun h' hx' => ?_)))
  have I3 := I2.kept (h' := h') (t' := s1.toks) fun b o e => hx' b o (Nat.ne_of_lt (Heap.lt_size e)) e
  show wpAny _ _ (assignInOrder [fun v => bindName X.env z v, fun v => bindName X.env y v, fun v => bindName X.env x v] [u3, u2, u1] >>= fun _ => pure Flow.next) _ _ _
  refine wpAny_bind (assignInOrder_cons (wpAny_bindName (store_ok I3 hN hn (.inl hz) r3 (fun s2 I4 => ?_) (.inr hz))))
  refine assignInOrder_cons (wpAny_bindName (store_ok I4 hN hj (.inl hy) r2 (fun s3 I5 => ?_) (.inr hy)))
  refine assignInOrder_cons (wpAny_bindName (store_ok I5 hN hi (.inl hx) r1 (fun s4 I6 => assignInOrder_nil (wpAny_pure ?_)) (.inr hx)))
  exact ⟨_, H1, I6, q1⟩
theorem es_par3 {z : Str} {n : Nat} {pt : Pos} {px py pz : Pos} {kt k2 : Nat} {pt2 : Pos} (hx : Ss q x i) (hy : Ss q y j) (hz : Ss q z n) (lx : q.sc.names.lookup x = some .local) (ly : q.sc.names.lookup y = some .local) (lz : q.sc.names.lookup z = some .local) (he : EvA q [a, b, c] σ [d1, d2, d3] σ1)
    (hw : ∀ env, env.scope = q.sc → swappedStores [.Tuple [.Name x px, .Name y py, .Name z pz] kt pt] (.Tuple [a, b, c] k2 pt2) env = pure (some [x, y, z])) (hs : ∀ env, swapsWithSole [.Tuple [.Name x px, .Name y py, .Name z pz] kt pt] (.Tuple [a, b, c] k2 pt2) pos.line env = pure false := by intro _; rfl) :
    EvS q (.Assign [.Tuple [.Name x px, .Name y py, .Name z pz] kt pt] (.Tuple [a, b, c] k2 pt2) pos) σ (.nx (((σ1.set n (.dat d3)).set j (.dat d2)).set i (.dat d1))) := fun X hX vs bd F R H s D f => by
  refine wS_of (ps_par3 hX.calm hX.nd (by rw [hX.N]; exact hx.ix) (by rw [hX.N]; exact hy.ix) (by rw [hX.N]; exact hz.ix) (by rw [hX.sc]; exact lx) (by rw [hX.sc]; exact ly) (by rw [hX.sc]; exact lz) (pA _) (hw _ hX.sc) (hs _)) (he X hX vs bd F R H s _ fun us F' H' ex s' hd => ?_)
  cases hd with
  | cons h1 hd =>
  cases hd with
  | cons h2 hd =>
  cases hd with
  | cons h3 hd =>
  cases hd
  refine ⟨_, _, _, rfl, ?_⟩
  have s2 := SM.store (i := n) s'.ln (s'.sim.pushD h3)
  have s3 := SM.store (i := j) s2.ln (s2.sim.pushD h2)
  exact f _ F' H' ex (SM.store s3.ln (s3.sim.pushD h1))
/-! ### facts of built-ins, slots in one breath -/
theorem Bi.of {u : Value} (gl : GlQ q x) (hm : q.g.mg x = none) (bt : bootBuiltins x = some u) (nn : x ≠ "__name__" := by decide) (nd : (x == ("__debug__" : Str)) = false := by decide) : Bi q x u := ⟨gl, hm, bt, nn, nd⟩
theorem Gc.int {m : Int} (gl : GlQ q x) (h : ∃ t, q.g.mg x = some (.int m t)) (nd : (x == ("__debug__" : Str)) = false := by decide) : Gc q x (.int m) := ⟨gl, let ⟨t, e⟩ := h; ⟨_, .int m, e, ⟨t, rfl⟩, fun _ => .int m⟩, nd⟩
theorem Gc.str {m : Str} (gl : GlQ q x) (h : ∃ t, q.g.mg x = some (.str m t)) (nd : (x == ("__debug__" : Str)) = false := by decide) : Gc q x (.str m) := ⟨gl, let ⟨t, e⟩ := h; ⟨_, .str m, e, ⟨t, rfl⟩, fun _ => .str m⟩, nd⟩
theorem bt_len : bootBuiltins "len" = some (.builtin "len") := by kernel_rfl
theorem bt_abs : bootBuiltins "abs" = some (.builtin "abs") := by kernel_rfl
theorem bt_all : bootBuiltins "all" = some (.builtin "all") := by kernel_rfl
theorem bt_min : bootBuiltins "min" = some (.builtin "min") := by kernel_rfl
theorem bt_max : bootBuiltins "max" = some (.builtin "max") := by kernel_rfl
theorem bt_repr : bootBuiltins "repr" = some (.builtin "repr") := by kernel_rfl
theorem bt_isinstance : bootBuiltins "isinstance" = some (.builtin "isinstance") := by kernel_rfl
theorem bt_int : bootBuiltins "int" = some (.type "int") := by kernel_rfl
theorem bt_bool : bootBuiltins "bool" = some (.type "bool") := by kernel_rfl
theorem bt_str : bootBuiltins "str" = some (.type "str") := by kernel_rfl
theorem bt_list : bootBuiltins "list" = some (.type "list") := by kernel_rfl
theorem bt_tuple : bootBuiltins "tuple" = some (.type "tuple") := by kernel_rfl
theorem bt_range : bootBuiltins "range" = some (.type "range") := by kernel_rfl
end
end TR

set_option Elab.async false
set_option linter.all false
set_option maxRecDepth 100000
set_option maxHeartbeats 2000000
/-! the rules with their small facts found by themselves -/
namespace TR
open PySem PySem.Spec L2
section
variable {q : Q} {e a b c : Expr} {σ σ1 σ2 σ3 σ' : S} {d d1 d2 d3 z : PyData} {ds ds1 ds2 es' : List PyData} {pos p2 p : Pos} {x y : Str}
theorem sl_ (i : Nat) (h : q.N[i]? = some x := by exact rfl) (v : Vis q.sc x := by first | exact .inl rfl | exact .inr (.inl rfl) | exact .inr (.inr rfl)) (n1 : (x == ("__debug__" : Str)) = false := by exact rfl) (n2 : (x == ("__classdict__" : Str)) = false := by exact rfl) : Sl q x i := ⟨h, v, n1, n2⟩
theorem ss_ (i : Nat) (h : q.N[i]? = some x := by exact rfl) (v : Loc q.sc x := by first | exact .inl rfl | exact .inr rfl) (st : q.fx x = true ∨ q.sc.names.lookup x = some .local := by first | exact .inl rfl | exact .inr rfl) : Ss q x i := ⟨h, v, st⟩
theorem nm (i : Nat) (hd : σ.ws[i]? = some (.dat d) := by exact rfl) (h : q.N[i]? = some x := by exact rfl) (v : Vis q.sc x := by first | exact .inl rfl | exact .inr (.inl rfl) | exact .inr (.inr rfl)) (n1 : (x == ("__debug__" : Str)) = false := by exact rfl) (n2 : (x == ("__classdict__" : Str)) = false := by exact rfl) :
    EvD q (.Name x pos) σ d σ := ev_name ⟨h, v, n1, n2⟩ hd
theorem nmF (i : Nat) (hd : σ.ws[i]? = some (.own (.lst ds)) := by exact rfl) (h : q.N[i]? = some x := by exact rfl) (v : Vis q.sc x := by first | exact .inl rfl | exact .inr (.inl rfl) | exact .inr (.inr rfl)) (n1 : (x == ("__debug__" : Str)) = false := by exact rfl) (n2 : (x == ("__classdict__" : Str)) = false := by exact rfl) :
    EvD q (.Name x pos) σ (.list ds) (σ.set i (.dat (.list ds))) := ev_nameF ⟨h, v, n1, n2⟩ hd
theorem nmL (i : Nat) (hd : σ.lst i = some ds := by exact rfl) (h : q.N[i]? = some x := by exact rfl) (v : Vis q.sc x := by first | exact .inl rfl | exact .inr (.inl rfl) | exact .inr (.inr rfl)) (n1 : (x == ("__debug__" : Str)) = false := by exact rfl) (n2 : (x == ("__classdict__" : Str)) = false := by exact rfl) :
    EvL q (.Name x pos) σ ds σ := ev_nameL ⟨h, v, n1, n2⟩ hd
theorem bi {u : Value} (hm : q.g.mg x = none) (bt : bootBuiltins x = some u) (gl : GlQ q x := by exact rfl) (nn : x ≠ "__name__" := by decide) (nd : (x == ("__debug__" : Str)) = false := by decide) : Bi q x u := ⟨gl, hm, bt, nn, nd⟩
theorem gi {m : Int} (h : ∃ t, q.g.mg x = some (.int m t)) (gl : GlQ q x := by exact rfl) (nd : (x == ("__debug__" : Str)) = false := by decide) : EvD q (.Name x pos) σ (.int m) σ := ev_glob (Gc.int gl h nd)
theorem gs {m : Str} (h : ∃ t, q.g.mg x = some (.str m t)) (gl : GlQ q x := by exact rfl) (nd : (x == ("__debug__" : Str)) = false := by decide) : EvD q (.Name x pos) σ (.str m) σ := ev_glob (Gc.str gl h nd)
theorem FnM.f {g : G} {j : Nat} {ps : List Str} {Sp : FSpec} (h : FnM g j x ps Sp) (hq : q.g = g := by exact rfl) (hj : j ≤ q.k := by first | exact Nat.le_of_ble_eq_true rfl | exact Nat.le_refl _) (gl : GlQ q x := by exact rfl) (nd : (x == ("__debug__" : Str)) = false := by decide) : Fn q x ps Sp := h.fn hq hj gl nd
theorem EvD.to (h : EvD q e σ d σ') (hd : d = d1) : EvD q e σ d1 σ' := hd ▸ h
theorem EvT.to {k k' : Bool} (h : EvT q e σ k σ') (hd : k = k') : EvT q e σ k' σ' := hd ▸ h
theorem EvD.st (h : EvD q e σ d σ') (hd : σ' = σ1) : EvD q e σ d σ1 := hd ▸ h
end
section
variable {q : Q} {body : List Stmt} {ws : List W} {bs bs' : List Cell} {d d' : PyData} {ds ds' : List PyData} {σ' : S}
theorem fnD (h : EvB q body (S.start q.N ws bs) (.rd d σ')) (hd : d = d') (hb : σ'.bs = bs' := by exact rfl) : EvFn q body ws bs (.d d' bs') := by
  subst hd hb
  exact .d _ _ h
theorem fnN (h : EvB q body (S.start q.N ws bs) (.nx σ')) (hb : σ'.bs = bs' := by exact rfl) : EvFn q body ws bs (.d .none bs') := by
  subst hb
  exact .n _ h
theorem fnO (h : EvB q body (S.start q.N ws bs) (.ro ds σ')) (hd : ds = ds') (hb : σ'.bs = bs' := by exact rfl) : EvFn q body ws bs (.o ds' bs') := by
  subst hd hb
  exact .o _ _ h
theorem fnX {C : Addr} (h : EvBx q body (S.start q.N ws bs) C d σ') (hd : d = d') (hb : σ'.bs = bs' := by exact rfl) : EvFn q body ws bs (.x C d' bs') := by
  subst hd hb
  exact .x _ _ _ h
end
section
variable {q : Q} {e a b c elt iter : Expr} {σ σ0 σ1 σ2 σ3 σ' : S} {d d1 d2 d3 z : PyData} {ds ds1 ds2 es' : List PyData} {pos p2 p px : Pos} {x y : Str} {scope : Scope}
/-! ### [elt for x in iter] -/
def blkB (N : List Str) (sc scope : Scope) (own : List (Str × Nat)) : Bool :=
  (scope.kind == .function) && (scope.names.all (fun y => scope.names.lookup y.1 == some y.2) && (own.all (fun p => N[p.2]? == some p.1) && (scope.names.all (fun y => !(y.2 == .free) || (sc.names.lookup y.1 == some .cell || sc.names.lookup y.1 == some .free)) &&
    scope.names.all (fun y => !(y.2 == .local || y.2 == .cell) || ((own.map (·.1)).contains y.1 || !N.contains y.1)))))
theorem BlkOk.of {N : List Str} {sc : Scope} {own : List (Str × Nat)} (h : blkB N sc scope own = true) : BlkOk N sc scope own := by
  unfold blkB at h
  simp only [Bool.and_eq_true, List.all_eq_true, beq_iff_eq, Bool.or_eq_true, Bool.not_eq_true', beq_eq_false_iff_ne, List.contains_iff_mem] at h
  obtain ⟨h1, h2, h3, h4, h5⟩ := h
  refine ⟨h1, h2, h3, fun y hy hf => ?_, fun y hy hl => ?_⟩
  · rcases h4 y hy with z | z
    · exact absurd hf z
    · exact z
  · rcases h5 y hy with z | z
    · rcases hl with hl | hl <;> simp [hl] at z
    · rcases z with z | z
      · exact .inl z
      · right
        simpa using z
theorem set_wipe {i : Nat} {w : W} : (σ.wipe [i]).set i w = σ.set i w := by
  show S.mk ((σ.ws.set i .un).set i w) σ.bs = _
  rw [List.set_set]
  rfl
theorem wipe_set1 {i : Nat} {w : W} : (σ.set i w).wipe [i] = σ.wipe [i] := by
  show S.mk ((σ.ws.set i w).set i .un) σ.bs = S.mk (σ.ws.set i .un) σ.bs
  rw [List.set_set]
theorem take_succ_get {α : Type} {l : List α} {k : Nat} {d : α} (h : l[k]? = some d) : l.take (k + 1) = l.take k ++ [d] := by
  rw [List.take_succ, h]
  rfl
theorem eo_map (i : Nat) {f : PyData → PyData} (hi : EvI q (.Name x px) iter σ ds σ0) (pl : ∀ w, σ0.ws[i]? = some w → plainW w) (hl : ds.length ≤ sizeLine) (he : ∀ d ∈ ds, EvD (q.blk scope) elt (σ0.set i (.dat d)) (f d) (σ0.set i (.dat d)))
    (ok : BlkOk q.N q.sc scope [(x, i)]) (hx : Ss (q.blk scope) x i) (hs : ∀ env x, foldedSetIterable iter env x = pure x := by intro _ _; rfl) : EvO q (.ListComp elt [⟨.Name x px, iter, [], 0⟩] scope pos) σ (ds.map f) σ0 := by
  have h := eo_lc (pos := pos) (elt := elt) (scope := scope) (own := [(x, i)]) (f := fun σ d => σ.set i (.dat d)) (okd := fun _ => True) (s := fun _ => σ0) (out := fun k => (ds.take k).map f) (σ := σ)
    { hi := hi, ok := ok, hg := eg_name hx (List.mem_singleton.mpr rfl), hokd := fun _ _ => trivial, hifs := .nil, o0 := rfl, len := fun _ _ => rfl, pl := fun k _ j hj w hw => by
        have : j = i := by simpa using hj
        subst this
        exact ⟨hw, pl w hw⟩, turn := fun k d hd => by
        refine ⟨?_, ?_⟩
        · have := lt_of_get hd
          rw [List.length_map, List.length_take]
          omega
        · have e1 : (ds.take (k + 1)).map f = (ds.take k).map f ++ [f d] := by rw [take_succ_get hd, List.map_append]; rfl
          rw [e1]
          show Turn' (q.blk scope) elt [] [i] ((σ0.wipe [i]).set i (.dat d)) _ _ _
          rw [set_wipe]
          exact .yes (f d) _ _ rfl (he d (List.mem_of_getElem? hd)) wipe_set1 } hs
  have e : (ds.take ds.length).map f = ds.map f := by rw [List.take_length]
  rw [← e]
  exact h
/-- the same, states following one another -/
theorem eo_gen (i : Nat) {s : Nat → S} {r : Nat → PyData} (hi : EvI q (.Name x px) iter σ ds (s 0)) (ln : ∀ k, (s k).ws.length = (s 0).ws.length) (pl : ∀ k w, (s k).ws[i]? = some w → (s 0).ws[i]? = some w ∧ plainW w) (hl : ds.length ≤ sizeLine)
    (he : ∀ k d, ds[k]? = some d → ∃ σ2, EvD (q.blk scope) elt ((s k).set i (.dat d)) (r k) σ2 ∧ σ2.wipe [i] = (s (k + 1)).wipe [i])
    (ok : BlkOk q.N q.sc scope [(x, i)]) (hx : Ss (q.blk scope) x i) (hs : ∀ env x, foldedSetIterable iter env x = pure x := by intro _ _; rfl) : EvO q (.ListComp elt [⟨.Name x px, iter, [], 0⟩] scope pos) σ ((List.range ds.length).map r) (s ds.length) := by
  exact eo_lc (pos := pos) (elt := elt) (scope := scope) (own := [(x, i)]) (f := fun σ d => σ.set i (.dat d)) (okd := fun _ => True) (s := s) (out := fun k => (List.range k).map r) (σ := σ)
    { hi := hi, ok := ok, hg := eg_name hx (List.mem_singleton.mpr rfl), hokd := fun _ _ => trivial, hifs := .nil, o0 := rfl, len := fun k _ => ln k, pl := fun k _ j hj w hw => by
        have : j = i := by simpa using hj
        subst this
        exact pl k w hw, turn := fun k d hd => by
        refine ⟨?_, ?_⟩
        · have := lt_of_get hd
          rw [List.length_map, List.length_range]
          omega
        · rw [List.range_succ, List.map_append]
          show Turn' (q.blk scope) elt [] [i] (((s k).wipe [i]).set i (.dat d)) _ _ _
          rw [set_wipe]
          obtain ⟨σ2, h1, h2⟩ := he k d hd
          exact .yes (r k) _ _ rfl h1 h2 } hs
/-! ### all of a row of tests -/
theorem all_bools {α : Type} {l : List α} {f : α → Bool} : (l.map fun x => PyData.bool (f x)) = (l.map f).map .bool := by rw [List.map_map]; rfl
end
end TR

set_option Elab.async false
set_option linter.all false
set_option maxRecDepth 100000
set_option maxHeartbeats 0
namespace TR
open PySem PySem.Spec PyProof.Rows L2
def top (i : Nat) : Stmt := PySem.Challenge.pw_tonguerules_k36_distances_of_words.main.body.getD i (.Pass ⟨0, 0, 0, 0⟩)
abbrev s_is_integer : Stmt := top 1
def d_is_integer : He.DefD := ⟨("is_integer", none), "is_integer", "is_integer", defArgs s_is_integer, defBody s_is_integer, defScope s_is_integer, [], []⟩
abbrev s_is_between : Stmt := top 2
def d_is_between : He.DefD := ⟨("is_between", none), "is_between", "is_between", defArgs s_is_between, defBody s_is_between, defScope s_is_between, [], []⟩
abbrev s_is_tuple : Stmt := top 3
def d_is_tuple : He.DefD := ⟨("is_tuple", none), "is_tuple", "is_tuple", defArgs s_is_tuple, defBody s_is_tuple, defScope s_is_tuple, [], []⟩
abbrev s_anew : Stmt := top 4
def d_anew : He.DefD := ⟨("anew", none), "anew", "anew", defArgs s_anew, defBody s_anew, defScope s_anew, [], []⟩
abbrev s_first_row : Stmt := top 6
def d_first_row : He.DefD := ⟨("first_row", none), "first_row", "first_row", defArgs s_first_row, defBody s_first_row, defScope s_first_row, [], []⟩
abbrev s_next_row : Stmt := top 7
def d_next_row : He.DefD := ⟨("next_row", none), "next_row", "next_row", defArgs s_next_row, defBody s_next_row, defScope s_next_row, [], []⟩
abbrev s_word_distance : Stmt := top 8
def d_word_distance : He.DefD := ⟨("word_distance", none), "word_distance", "word_distance", defArgs s_word_distance, defBody s_word_distance, defScope s_word_distance, [], []⟩
abbrev s_is_word : Stmt := top 15
def d_is_word : He.DefD := ⟨("is_word", none), "is_word", "is_word", defArgs s_is_word, defBody s_is_word, defScope s_is_word, [], []⟩
abbrev s_need_word : Stmt := top 16
def d_need_word : He.DefD := ⟨("need_word", none), "need_word", "need_word", defArgs s_need_word, defBody s_need_word, defScope s_need_word, [], []⟩
abbrev s_are_prices : Stmt := top 20
def d_are_prices : He.DefD := ⟨("are_prices", none), "are_prices", "are_prices", defArgs s_are_prices, defBody s_are_prices, defScope s_are_prices, [], []⟩
abbrev s_need_prices : Stmt := top 21
def d_need_prices : He.DefD := ⟨("need_prices", none), "need_prices", "need_prices", defArgs s_need_prices, defBody s_need_prices, defScope s_need_prices, [], []⟩
abbrev s_distance : Stmt := top 22
def d_distance : He.DefD := ⟨("distance", none), "distance", "distance", defArgs s_distance, defBody s_distance, defScope s_distance, [], []⟩
abbrev s__law_pool : Stmt := top 24
def d__law_pool : He.DefD := ⟨("_law_pool", none), "_law_pool", "_law_pool", defArgs s__law_pool, defBody s__law_pool, defScope s__law_pool, [], []⟩
abbrev s__law_take : Stmt := top 25
def d__law_take : He.DefD := ⟨("_law_take", none), "_law_take", "_law_take", defArgs s__law_take, defBody s__law_take, defScope s__law_take, [], []⟩
abbrev s__law_distance : Stmt := top 26
def d__law_distance : He.DefD := ⟨("_law_distance", none), "_law_distance", "_law_distance", defArgs s__law_distance, defBody s__law_distance, defScope s__law_distance, [], []⟩
abbrev s__law_prices : Stmt := top 27
def d__law_prices : He.DefD := ⟨("_law_prices", none), "_law_prices", "_law_prices", defArgs s__law_prices, defBody s__law_prices, defScope s__law_prices, [], []⟩
abbrev s__law_text : Stmt := top 28
def d__law_text : He.DefD := ⟨("_law_text", none), "_law_text", "_law_text", defArgs s__law_text, defBody s__law_text, defScope s__law_text, [], []⟩
abbrev s__law_made : Stmt := top 29
def d__law_made : He.DefD := ⟨("_law_made", none), "_law_made", "_law_made", defArgs s__law_made, defBody s__law_made, defScope s__law_made, [], []⟩
abbrev s__law_refused : Stmt := top 30
def d__law_refused : He.DefD := ⟨("_law_refused", none), "_law_refused", "_law_refused", defArgs s__law_refused, defBody s__law_refused, defScope s__law_refused, [], []⟩
abbrev s_law : Stmt := top 31
def d_law : He.DefD := ⟨("law", none), "law", "law", defArgs s_law, defBody s_law, defScope s_law, [], []⟩
abbrev s_TongueError___init__ : Stmt := inClass (top 10) 0
def fn : List He.DefD := [d_is_integer, d_is_between, d_is_tuple, d_anew, d_first_row, d_next_row, d_word_distance, d_is_word, d_need_word, d_are_prices, d_need_prices, d_distance, d__law_pool, d__law_take, d__law_distance, d__law_prices, d__law_text, d__law_made, d__law_refused, d_law]
def fa : List He.Fa := [.glo "is_integer", .glo "is_between", .glo "is_tuple", .glo "anew", .glo "first_row", .glo "next_row", .glo "word_distance", .glo "is_word", .glo "need_word", .glo "are_prices", .glo "need_prices", .glo "distance", .glo "_law_pool", .glo "_law_take", .glo "_law_distance", .glo "_law_prices", .glo "_law_text", .glo "_law_made", .glo "_law_refused", .glo "law", .glo "TongueError", .glo "InvalidWord", .glo "InvalidPrices", .free "ValueError", .free "abs", .free "all", .free "bool", .free "int", .free "isinstance", .free "len", .free "list", .free "max", .free "min", .free "range", .free "repr", .free "str", .free "super", .free "tuple", .str "ALPHABET" "abcdefghijkl", .int "MOST_PRICE" 1000, .int "MOST_LETTERS" 12]
def xb : PySem.W.Frag → Bool := errsB "/claim/cut.py" "TongueError" ["InvalidWord", "InvalidPrices"]
def ia (K : PySem.W.Frag) : Addr := He.ma K (He.ga K "TongueError") "__init__"
def iv : InW := some ("__init__", "TongueError.__init__", defArgs s_TongueError___init__, FuncBody.stmts (defBody s_TongueError___init__), defScope s_TongueError___init__, mainGlobals, ["__class__"], builtinsNs)
abbrev R : PySem.W.OpenRow := PySem.W.OpenLaw.row PySem.Challenge.rw_tonguerules_k36_distances_of_words
abbrev hk : PySem.W.Hook := hookE 6 fa fn xb ia iv
def ob (s : PySem.W.SharedT) : AlE := obsEG 6 fa fn xb ia (HandSHeadRun.getT s)
theorem ob_eq (s : PySem.W.SharedT) : ob s = hk.obs s.abs := obsEG_eq (HandSHeadRun.getT_eq s)
def loose : List Str := ["is_integer", "is_between", "is_tuple", "anew", "first_row", "next_row", "word_distance", "is_word", "need_word", "are_prices", "need_prices", "distance", "_law_pool", "_law_take", "_law_distance", "_law_prices", "_law_text", "_law_made", "_law_refused", "TongueError", "InvalidWord", "InvalidPrices", "ALPHABET", "MOST_PRICE", "MOST_LETTERS"]
theorem run (w : World) : HandSHeadRun.RunEq R (PySem.W.view R.prog [31]) hk ob 2000 loose w := by
  intro os
  kernel_rfl
end TR

set_option Elab.async false
set_option linter.all false
set_option maxRecDepth 100000
set_option maxHeartbeats 2000000
namespace TR
open PySem PySem.Spec L2
abbrev M (g : G) : Prop := MG fa fn xb ia iv g
theorem g_is_integer {g : G} (m : M g) : g.mg "is_integer" = some (.ref (He.ga g.K "is_integer")) := m.glo _ (m.c.d.fact 0)
theorem g_is_between {g : G} (m : M g) : g.mg "is_between" = some (.ref (He.ga g.K "is_between")) := m.glo _ (m.c.d.fact 1)
theorem g_is_tuple {g : G} (m : M g) : g.mg "is_tuple" = some (.ref (He.ga g.K "is_tuple")) := m.glo _ (m.c.d.fact 2)
theorem g_anew {g : G} (m : M g) : g.mg "anew" = some (.ref (He.ga g.K "anew")) := m.glo _ (m.c.d.fact 3)
theorem g_first_row {g : G} (m : M g) : g.mg "first_row" = some (.ref (He.ga g.K "first_row")) := m.glo _ (m.c.d.fact 4)
theorem g_next_row {g : G} (m : M g) : g.mg "next_row" = some (.ref (He.ga g.K "next_row")) := m.glo _ (m.c.d.fact 5)
theorem g_word_distance {g : G} (m : M g) : g.mg "word_distance" = some (.ref (He.ga g.K "word_distance")) := m.glo _ (m.c.d.fact 6)
theorem g_is_word {g : G} (m : M g) : g.mg "is_word" = some (.ref (He.ga g.K "is_word")) := m.glo _ (m.c.d.fact 7)
theorem g_need_word {g : G} (m : M g) : g.mg "need_word" = some (.ref (He.ga g.K "need_word")) := m.glo _ (m.c.d.fact 8)
theorem g_are_prices {g : G} (m : M g) : g.mg "are_prices" = some (.ref (He.ga g.K "are_prices")) := m.glo _ (m.c.d.fact 9)
theorem g_need_prices {g : G} (m : M g) : g.mg "need_prices" = some (.ref (He.ga g.K "need_prices")) := m.glo _ (m.c.d.fact 10)
theorem g_distance {g : G} (m : M g) : g.mg "distance" = some (.ref (He.ga g.K "distance")) := m.glo _ (m.c.d.fact 11)
theorem g__law_pool {g : G} (m : M g) : g.mg "_law_pool" = some (.ref (He.ga g.K "_law_pool")) := m.glo _ (m.c.d.fact 12)
theorem g__law_take {g : G} (m : M g) : g.mg "_law_take" = some (.ref (He.ga g.K "_law_take")) := m.glo _ (m.c.d.fact 13)
theorem g__law_distance {g : G} (m : M g) : g.mg "_law_distance" = some (.ref (He.ga g.K "_law_distance")) := m.glo _ (m.c.d.fact 14)
theorem g__law_prices {g : G} (m : M g) : g.mg "_law_prices" = some (.ref (He.ga g.K "_law_prices")) := m.glo _ (m.c.d.fact 15)
theorem g__law_text {g : G} (m : M g) : g.mg "_law_text" = some (.ref (He.ga g.K "_law_text")) := m.glo _ (m.c.d.fact 16)
theorem g__law_made {g : G} (m : M g) : g.mg "_law_made" = some (.ref (He.ga g.K "_law_made")) := m.glo _ (m.c.d.fact 17)
theorem g__law_refused {g : G} (m : M g) : g.mg "_law_refused" = some (.ref (He.ga g.K "_law_refused")) := m.glo _ (m.c.d.fact 18)
theorem g_law {g : G} (m : M g) : g.mg "law" = some (.ref (He.ga g.K "law")) := m.glo _ (m.c.d.fact 19)
theorem g_TongueError {g : G} (m : M g) : g.mg "TongueError" = some (.ref (He.ga g.K "TongueError")) := m.glo _ (m.c.d.fact 20)
theorem g_InvalidWord {g : G} (m : M g) : g.mg "InvalidWord" = some (.ref (He.ga g.K "InvalidWord")) := m.glo _ (m.c.d.fact 21)
theorem g_InvalidPrices {g : G} (m : M g) : g.mg "InvalidPrices" = some (.ref (He.ga g.K "InvalidPrices")) := m.glo _ (m.c.d.fact 22)
theorem f_ValueError {g : G} (m : M g) : g.mg "ValueError" = none := m.free _ (m.c.d.fact 23)
theorem f_abs {g : G} (m : M g) : g.mg "abs" = none := m.free _ (m.c.d.fact 24)
theorem f_all {g : G} (m : M g) : g.mg "all" = none := m.free _ (m.c.d.fact 25)
theorem f_bool {g : G} (m : M g) : g.mg "bool" = none := m.free _ (m.c.d.fact 26)
theorem f_int {g : G} (m : M g) : g.mg "int" = none := m.free _ (m.c.d.fact 27)
theorem f_isinstance {g : G} (m : M g) : g.mg "isinstance" = none := m.free _ (m.c.d.fact 28)
theorem f_len {g : G} (m : M g) : g.mg "len" = none := m.free _ (m.c.d.fact 29)
theorem f_list {g : G} (m : M g) : g.mg "list" = none := m.free _ (m.c.d.fact 30)
theorem f_max {g : G} (m : M g) : g.mg "max" = none := m.free _ (m.c.d.fact 31)
theorem f_min {g : G} (m : M g) : g.mg "min" = none := m.free _ (m.c.d.fact 32)
theorem f_range {g : G} (m : M g) : g.mg "range" = none := m.free _ (m.c.d.fact 33)
theorem f_repr {g : G} (m : M g) : g.mg "repr" = none := m.free _ (m.c.d.fact 34)
theorem f_str {g : G} (m : M g) : g.mg "str" = none := m.free _ (m.c.d.fact 35)
theorem f_super {g : G} (m : M g) : g.mg "super" = none := m.free _ (m.c.d.fact 36)
theorem f_tuple {g : G} (m : M g) : g.mg "tuple" = none := m.free _ (m.c.d.fact 37)
theorem c_ALPHABET {g : G} (m : M g) : ∃ t, g.mg "ALPHABET" = some (.str "abcdefghijkl" t) := m.str _ _ (m.c.d.fact 38)
theorem c_MOST_PRICE {g : G} (m : M g) : ∃ t, g.mg "MOST_PRICE" = some (.int 1000 t) := m.int _ _ (m.c.d.fact 39)
theorem c_MOST_LETTERS {g : G} (m : M g) : ∃ t, g.mg "MOST_LETTERS" = some (.int 12 t) := m.int _ _ (m.c.d.fact 40)
/-- slots of is_integer: value 0 -/
abbrev N_is_integer : List Str := ["value"]
abbrev q_is_integer (g : G) (k : Nat) : Q := qOf g N_is_integer (defScope s_is_integer) k
theorem sc_is_integer : FnScope N_is_integer ["value"] (defScope s_is_integer) := ⟨rfl, rfl, rfl, by decide +kernel, rfl, by decide +kernel, by decide +kernel⟩
theorem m_is_integer {g : G} (m : M g) {k : Nat} {Sp : FSpec} (h : ∀ ws bs res, Sp ws bs res → ws.length = 1 → EvFn (q_is_integer g k) (defBody s_is_integer) ws bs res) : FnM g (k + 1) "is_integer" ["value"] Sp :=
  FnM.of (m.c.d.def_ 0) sc_is_integer (g_is_integer m) (fun _ _ _ _ _ _ us hl => match us, hl with | [_], _ => rfl) h
/-- slots of is_between: value 0 low 1 high 2 -/
abbrev N_is_between : List Str := ["value", "low", "high"]
abbrev q_is_between (g : G) (k : Nat) : Q := qOf g N_is_between (defScope s_is_between) k
theorem sc_is_between : FnScope N_is_between ["value", "low", "high"] (defScope s_is_between) := ⟨rfl, rfl, rfl, by decide +kernel, rfl, by decide +kernel, by decide +kernel⟩
theorem m_is_between {g : G} (m : M g) {k : Nat} {Sp : FSpec} (h : ∀ ws bs res, Sp ws bs res → ws.length = 3 → EvFn (q_is_between g k) (defBody s_is_between) ws bs res) : FnM g (k + 1) "is_between" ["value", "low", "high"] Sp :=
  FnM.of (m.c.d.def_ 1) sc_is_between (g_is_between m) (fun _ _ _ _ _ _ us hl => match us, hl with | [_, _, _], _ => rfl) h
/-- slots of is_tuple: value 0 low 1 high 2 -/
abbrev N_is_tuple : List Str := ["value", "low", "high"]
abbrev q_is_tuple (g : G) (k : Nat) : Q := qOf g N_is_tuple (defScope s_is_tuple) k
theorem sc_is_tuple : FnScope N_is_tuple ["value", "low", "high"] (defScope s_is_tuple) := ⟨rfl, rfl, rfl, by decide +kernel, rfl, by decide +kernel, by decide +kernel⟩
theorem m_is_tuple {g : G} (m : M g) {k : Nat} {Sp : FSpec} (h : ∀ ws bs res, Sp ws bs res → ws.length = 3 → EvFn (q_is_tuple g k) (defBody s_is_tuple) ws bs res) : FnM g (k + 1) "is_tuple" ["value", "low", "high"] Sp :=
  FnM.of (m.c.d.def_ 2) sc_is_tuple (g_is_tuple m) (fun _ _ _ _ _ _ us hl => match us, hl with | [_, _, _], _ => rfl) h
/-- slots of anew: value 0 part 1 -/
abbrev N_anew : List Str := ["value", "part"]
abbrev q_anew (g : G) (k : Nat) : Q := qOf g N_anew (defScope s_anew) k
theorem sc_anew : FnScope N_anew ["value"] (defScope s_anew) := ⟨rfl, rfl, rfl, by decide +kernel, rfl, by decide +kernel, by decide +kernel⟩
theorem m_anew {g : G} (m : M g) {k : Nat} {Sp : FSpec} (h : ∀ ws bs res, Sp ws bs res → ws.length = 1 → EvFn (q_anew g k) (defBody s_anew) ws bs res) : FnM g (k + 1) "anew" ["value"] Sp :=
  FnM.of (m.c.d.def_ 3) sc_anew (g_anew m) (fun _ _ _ _ _ _ us hl => match us, hl with | [_], _ => rfl) h
/-- slots of first_row: prices 0 word 1 i 2 -/
abbrev N_first_row : List Str := ["prices", "word", "i"]
abbrev q_first_row (g : G) (k : Nat) : Q := qOf g N_first_row (defScope s_first_row) k
theorem sc_first_row : FnScope N_first_row ["prices", "word"] (defScope s_first_row) := ⟨rfl, rfl, rfl, by decide +kernel, rfl, by decide +kernel, by decide +kernel⟩
theorem m_first_row {g : G} (m : M g) {k : Nat} {Sp : FSpec} (h : ∀ ws bs res, Sp ws bs res → ws.length = 2 → EvFn (q_first_row g k) (defBody s_first_row) ws bs res) : FnM g (k + 1) "first_row" ["prices", "word"] Sp :=
  FnM.of (m.c.d.def_ 4) sc_first_row (g_first_row m) (fun _ _ _ _ _ _ us hl => match us, hl with | [_, _], _ => rfl) h
/-- slots of next_row: prices 0 word 1 rows 2 written 3 put 4 leave 5 change 6 turn 7 last 8 before 9 letter 10 found 11 i 12 ways 13 -/
abbrev N_next_row : List Str := ["prices", "word", "rows", "written", "put", "leave", "change", "turn", "last", "before", "letter", "found", "i", "ways"]
abbrev q_next_row (g : G) (k : Nat) : Q := qOf g N_next_row (defScope s_next_row) k
theorem sc_next_row : FnScope N_next_row ["prices", "word", "rows", "written"] (defScope s_next_row) := ⟨rfl, rfl, rfl, by decide +kernel, rfl, by decide +kernel, by decide +kernel⟩
theorem m_next_row {g : G} (m : M g) {k : Nat} {Sp : FSpec} (h : ∀ ws bs res, Sp ws bs res → ws.length = 4 → EvFn (q_next_row g k) (defBody s_next_row) ws bs res) : FnM g (k + 1) "next_row" ["prices", "word", "rows", "written"] Sp :=
  FnM.of (m.c.d.def_ 5) sc_next_row (g_next_row m) (fun _ _ _ _ _ _ us hl => match us, hl with | [_, _, _, _], _ => rfl) h
/-- slots of word_distance: prices 0 one 1 other 2 last 3 before 4 at 5 -/
abbrev N_word_distance : List Str := ["prices", "one", "other", "last", "before", "at"]
abbrev q_word_distance (g : G) (k : Nat) : Q := qOf g N_word_distance (defScope s_word_distance) k
theorem sc_word_distance : FnScope N_word_distance ["prices", "one", "other"] (defScope s_word_distance) := ⟨rfl, rfl, rfl, by decide +kernel, rfl, by decide +kernel, by decide +kernel⟩
theorem m_word_distance {g : G} (m : M g) {k : Nat} {Sp : FSpec} (h : ∀ ws bs res, Sp ws bs res → ws.length = 3 → EvFn (q_word_distance g k) (defBody s_word_distance) ws bs res) : FnM g (k + 1) "word_distance" ["prices", "one", "other"] Sp :=
  FnM.of (m.c.d.def_ 6) sc_word_distance (g_word_distance m) (fun _ _ _ _ _ _ us hl => match us, hl with | [_, _, _], _ => rfl) h
/-- slots of is_word: n 0 value 1 letter 2 -/
abbrev N_is_word : List Str := ["n", "value", "letter"]
abbrev q_is_word (g : G) (k : Nat) : Q := qOf g N_is_word (defScope s_is_word) k
theorem sc_is_word : FnScope N_is_word ["n", "value"] (defScope s_is_word) := ⟨rfl, rfl, rfl, by decide +kernel, rfl, by decide +kernel, by decide +kernel⟩
theorem m_is_word {g : G} (m : M g) {k : Nat} {Sp : FSpec} (h : ∀ ws bs res, Sp ws bs res → ws.length = 2 → EvFn (q_is_word g k) (defBody s_is_word) ws bs res) : FnM g (k + 1) "is_word" ["n", "value"] Sp :=
  FnM.of (m.c.d.def_ 7) sc_is_word (g_is_word m) (fun _ _ _ _ _ _ us hl => match us, hl with | [_, _], _ => rfl) h
/-- slots of need_word: n 0 word 1 -/
abbrev N_need_word : List Str := ["n", "word"]
abbrev q_need_word (g : G) (k : Nat) : Q := qOf g N_need_word (defScope s_need_word) k
theorem sc_need_word : FnScope N_need_word ["n", "word"] (defScope s_need_word) := ⟨rfl, rfl, rfl, by decide +kernel, rfl, by decide +kernel, by decide +kernel⟩
theorem m_need_word {g : G} (m : M g) {k : Nat} {Sp : FSpec} (h : ∀ ws bs res, Sp ws bs res → ws.length = 2 → EvFn (q_need_word g k) (defBody s_need_word) ws bs res) : FnM g (k + 1) "need_word" ["n", "word"] Sp :=
  FnM.of (m.c.d.def_ 8) sc_need_word (g_need_word m) (fun _ _ _ _ _ _ us hl => match us, hl with | [_, _], _ => rfl) h
/-- slots of are_prices: value 0 price 1 -/
abbrev N_are_prices : List Str := ["value", "price"]
abbrev q_are_prices (g : G) (k : Nat) : Q := qOf g N_are_prices (defScope s_are_prices) k
theorem sc_are_prices : FnScope N_are_prices ["value"] (defScope s_are_prices) := ⟨rfl, rfl, rfl, by decide +kernel, rfl, by decide +kernel, by decide +kernel⟩
theorem m_are_prices {g : G} (m : M g) {k : Nat} {Sp : FSpec} (h : ∀ ws bs res, Sp ws bs res → ws.length = 1 → EvFn (q_are_prices g k) (defBody s_are_prices) ws bs res) : FnM g (k + 1) "are_prices" ["value"] Sp :=
  FnM.of (m.c.d.def_ 9) sc_are_prices (g_are_prices m) (fun _ _ _ _ _ _ us hl => match us, hl with | [_], _ => rfl) h
/-- slots of need_prices: prices 0 -/
abbrev N_need_prices : List Str := ["prices"]
abbrev q_need_prices (g : G) (k : Nat) : Q := qOf g N_need_prices (defScope s_need_prices) k
theorem sc_need_prices : FnScope N_need_prices ["prices"] (defScope s_need_prices) := ⟨rfl, rfl, rfl, by decide +kernel, rfl, by decide +kernel, by decide +kernel⟩
theorem m_need_prices {g : G} (m : M g) {k : Nat} {Sp : FSpec} (h : ∀ ws bs res, Sp ws bs res → ws.length = 1 → EvFn (q_need_prices g k) (defBody s_need_prices) ws bs res) : FnM g (k + 1) "need_prices" ["prices"] Sp :=
  FnM.of (m.c.d.def_ 10) sc_need_prices (g_need_prices m) (fun _ _ _ _ _ _ us hl => match us, hl with | [_], _ => rfl) h
/-- slots of distance: prices 0 one 1 other 2 -/
abbrev N_distance : List Str := ["prices", "one", "other"]
abbrev q_distance (g : G) (k : Nat) : Q := qOf g N_distance (defScope s_distance) k
theorem sc_distance : FnScope N_distance ["prices", "one", "other"] (defScope s_distance) := ⟨rfl, rfl, rfl, by decide +kernel, rfl, by decide +kernel, by decide +kernel⟩
theorem m_distance {g : G} (m : M g) {k : Nat} {Sp : FSpec} (h : ∀ ws bs res, Sp ws bs res → ws.length = 3 → EvFn (q_distance g k) (defBody s_distance) ws bs res) : FnM g (k + 1) "distance" ["prices", "one", "other"] Sp :=
  FnM.of (m.c.d.def_ 11) sc_distance (g_distance m) (fun _ _ _ _ _ _ us hl => match us, hl with | [_, _, _], _ => rfl) h
/-- slots of _law_pool: script 0 many 1 pool 2 seed 3 cell 4 left 5 k 6 -/
abbrev N__law_pool : List Str := ["script", "many", "pool", "seed", "cell", "left", "k"]
abbrev q__law_pool (g : G) (k : Nat) : Q := qOf g N__law_pool (defScope s__law_pool) k
theorem sc__law_pool : FnScope N__law_pool ["script", "many"] (defScope s__law_pool) := ⟨rfl, rfl, rfl, by decide +kernel, rfl, by decide +kernel, by decide +kernel⟩
theorem m__law_pool {g : G} (m : M g) {k : Nat} {Sp : FSpec} (h : ∀ ws bs res, Sp ws bs res → ws.length = 2 → EvFn (q__law_pool g k) (defBody s__law_pool) ws bs res) : FnM g (k + 1) "_law_pool" ["script", "many"] Sp :=
  FnM.of (m.c.d.def_ 12) sc__law_pool (g__law_pool m) (fun _ _ _ _ _ _ us hl => match us, hl with | [_, _], _ => rfl) h
/-- slots of _law_take: pool 0 limit 1 -/
abbrev N__law_take : List Str := ["pool", "limit"]
abbrev q__law_take (g : G) (k : Nat) : Q := qOf g N__law_take (defScope s__law_take) k
theorem sc__law_take : FnScope N__law_take ["pool", "limit"] (defScope s__law_take) := ⟨rfl, rfl, rfl, by decide +kernel, rfl, by decide +kernel, by decide +kernel⟩
theorem m__law_take {g : G} (m : M g) {k : Nat} {Sp : FSpec} (h : ∀ ws bs res, Sp ws bs res → ws.length = 2 → EvFn (q__law_take g k) (defBody s__law_take) ws bs res) : FnM g (k + 1) "_law_take" ["pool", "limit"] Sp :=
  FnM.of (m.c.d.def_ 13) sc__law_take (g__law_take m) (fun _ _ _ _ _ _ us hl => match us, hl with | [_, _], _ => rfl) h
/-- slots of _law_distance: prices 0 one 1 other 2 put 3 leave 4 change 5 turn 6 rows 7 k 8 i 9 row 10 found 11 -/
abbrev N__law_distance : List Str := ["prices", "one", "other", "put", "leave", "change", "turn", "rows", "k", "i", "row", "found"]
abbrev q__law_distance (g : G) (k : Nat) : Q := qOf g N__law_distance (defScope s__law_distance) k
theorem sc__law_distance : FnScope N__law_distance ["prices", "one", "other"] (defScope s__law_distance) := ⟨rfl, rfl, rfl, by decide +kernel, rfl, by decide +kernel, by decide +kernel⟩
theorem m__law_distance {g : G} (m : M g) {k : Nat} {Sp : FSpec} (h : ∀ ws bs res, Sp ws bs res → ws.length = 3 → EvFn (q__law_distance g k) (defBody s__law_distance) ws bs res) : FnM g (k + 1) "_law_distance" ["prices", "one", "other"] Sp :=
  FnM.of (m.c.d.def_ 14) sc__law_distance (g__law_distance m) (fun _ _ _ _ _ _ us hl => match us, hl with | [_, _, _], _ => rfl) h
/-- slots of _law_prices: pool 0 kind 1 -/
abbrev N__law_prices : List Str := ["pool", "kind"]
abbrev q__law_prices (g : G) (k : Nat) : Q := qOf g N__law_prices (defScope s__law_prices) k
theorem sc__law_prices : FnScope N__law_prices ["pool"] (defScope s__law_prices) := ⟨rfl, rfl, rfl, by decide +kernel, rfl, by decide +kernel, by decide +kernel⟩
theorem m__law_prices {g : G} (m : M g) {k : Nat} {Sp : FSpec} (h : ∀ ws bs res, Sp ws bs res → ws.length = 1 → EvFn (q__law_prices g k) (defBody s__law_prices) ws bs res) : FnM g (k + 1) "_law_prices" ["pool"] Sp :=
  FnM.of (m.c.d.def_ 15) sc__law_prices (g__law_prices m) (fun _ _ _ _ _ _ us hl => match us, hl with | [_], _ => rfl) h
/-- slots of _law_text: pool 0 n 1 most 2 k 3 -/
abbrev N__law_text : List Str := ["pool", "n", "most", "k"]
abbrev q__law_text (g : G) (k : Nat) : Q := qOf g N__law_text (defScope s__law_text) k
theorem sc__law_text : FnScope N__law_text ["pool", "n", "most"] (defScope s__law_text) := ⟨rfl, rfl, rfl, by decide +kernel, rfl, by decide +kernel, by decide +kernel⟩
theorem m__law_text {g : G} (m : M g) {k : Nat} {Sp : FSpec} (h : ∀ ws bs res, Sp ws bs res → ws.length = 3 → EvFn (q__law_text g k) (defBody s__law_text) ws bs res) : FnM g (k + 1) "_law_text" ["pool", "n", "most"] Sp :=
  FnM.of (m.c.d.def_ 16) sc__law_text (g__law_text m) (fun _ _ _ _ _ _ us hl => match us, hl with | [_, _, _], _ => rfl) h
/-- slots of _law_made: pool 0 prices 1 word 2 put 3 leave 4 change 5 turn 6 cost 7 found 8 at 9 kind 10 -/
abbrev N__law_made : List Str := ["pool", "prices", "word", "put", "leave", "change", "turn", "cost", "found", "at", "kind"]
abbrev q__law_made (g : G) (k : Nat) : Q := qOf g N__law_made (defScope s__law_made) k
theorem sc__law_made : FnScope N__law_made ["pool", "prices", "word"] (defScope s__law_made) := ⟨rfl, rfl, rfl, by decide +kernel, rfl, by decide +kernel, by decide +kernel⟩
theorem m__law_made {g : G} (m : M g) {k : Nat} {Sp : FSpec} (h : ∀ ws bs res, Sp ws bs res → ws.length = 3 → EvFn (q__law_made g k) (defBody s__law_made) ws bs res) : FnM g (k + 1) "_law_made" ["pool", "prices", "word"] Sp :=
  FnM.of (m.c.d.def_ 17) sc__law_made (g__law_made m) (fun _ _ _ _ _ _ us hl => match us, hl with | [_, _, _], _ => rfl) h
/-- slots of _law_refused: prices 0 one 1 other 2 kind 3 caught 4 e 5 own 6 -/
abbrev N__law_refused : List Str := ["prices", "one", "other", "kind", "caught", "e", "own"]
abbrev q__law_refused (g : G) (k : Nat) : Q := qOf g N__law_refused (defScope s__law_refused) k
theorem sc__law_refused : FnScope N__law_refused ["prices", "one", "other", "kind"] (defScope s__law_refused) := ⟨rfl, rfl, rfl, by decide +kernel, rfl, by decide +kernel, by decide +kernel⟩
theorem m__law_refused {g : G} (m : M g) {k : Nat} {Sp : FSpec} (h : ∀ ws bs res, Sp ws bs res → ws.length = 4 → EvFn (q__law_refused g k) (defBody s__law_refused) ws bs res) : FnM g (k + 1) "_law_refused" ["prices", "one", "other", "kind"] Sp :=
  FnM.of (m.c.d.def_ 18) sc__law_refused (g__law_refused m) (fun _ _ _ _ _ _ us hl => match us, hl with | [_, _, _, _], _ => rfl) h
/-- slots of law: script 0 pool 1 turn 2 prices 3 word 4 other 5 most 6 due 7 turned 8 bads 9 bad 10 odd 11 -/
abbrev N_law : List Str := ["script", "pool", "turn", "prices", "word", "other", "most", "due", "turned", "bads", "bad", "odd"]
abbrev q_law (g : G) (k : Nat) : Q := qOf g N_law (defScope s_law) k
theorem sc_law : FnScope N_law ["script"] (defScope s_law) := ⟨rfl, rfl, rfl, by decide +kernel, rfl, by decide +kernel, by decide +kernel⟩
theorem m_law {g : G} (m : M g) {k : Nat} {Sp : FSpec} (h : ∀ ws bs res, Sp ws bs res → ws.length = 1 → EvFn (q_law g k) (defBody s_law) ws bs res) : FnM g (k + 1) "law" ["script"] Sp :=
  FnM.of (m.c.d.def_ 19) sc_law (g_law m) (fun _ _ _ _ _ _ us hl => match us, hl with | [_], _ => rfl) h
end TR

set_option Elab.async false
set_option linter.all false
set_option maxRecDepth 100000
set_option maxHeartbeats 2000000
namespace TR
open PySem PySem.Spec L2
def isInt : PyData → Bool
  | .int _ => true
  | _ => false
def kInt : PyData → Bool
  | .int _ => true
  | .bool _ => true
  | _ => false
def kBool : PyData → Bool
  | .bool _ => true
  | _ => false
def kStr : PyData → Bool
  | .str _ => true
  | _ => false
def kTup : PyData → Bool
  | .tuple _ => true
  | _ => false
def kLst : PyData → Bool
  | .list _ => true
  | _ => false
theorem kit_int (d : PyData) : kitB (tyD d) "int" = some (kInt d) := by cases d <;> (dsimp only [tyD, kInt]; decide +kernel)
theorem kit_bool (d : PyData) : kitB (tyD d) "bool" = some (kBool d) := by cases d <;> (dsimp only [tyD, kBool]; decide +kernel)
theorem kit_str (d : PyData) : kitB (tyD d) "str" = some (kStr d) := by cases d <;> (dsimp only [tyD, kStr]; decide +kernel)
theorem kit_tup (d : PyData) : kitB (tyD d) "tuple" = some (kTup d) := by cases d <;> (dsimp only [tyD, kTup]; decide +kernel)
theorem kit_lst (d : PyData) : kitB (tyD d) "list" = some (kLst d) := by cases d <;> (dsimp only [tyD, kLst]; decide +kernel)
section
variable {g : G}
/-! ### is_integer -/
def sp_is_integer : FSpec := fun ws bs res => ∃ d, ws = [.dat d] ∧ bs = [] ∧ res = .d (.bool (isInt d)) []
theorem is_integer_ok (m : M g) : FnM g 1 "is_integer" ["value"] sp_is_integer := m_is_integer m fun ws bs res h hl => by
  obtain ⟨d, rfl, rfl, rfl⟩ := h
  exact fnD (eb_one (es_ret (ev_and (ev_isi (bi (f_isinstance m) bt_isinstance) (bi (f_int m) bt_int) (nm 0) (kit_int d)) fun _ => ev_and1 (ev_not (ev_isi (bi (f_isinstance m) bt_isinstance) (bi (f_bool m) bt_bool) (nm 0) (kit_bool d))))))
    (by cases d <;> rfl)
/-! ### is_between -/
def isBtw (lo hi : Int) : PyData → Bool
  | .int v => decide (lo ≤ v) && decide (v ≤ hi)
  | _ => false
def sp_is_between : FSpec := fun ws bs res => ∃ d lo hi, ws = [.dat d, .dat (.int lo), .dat (.int hi)] ∧ bs = [] ∧ res = .d (.bool (isBtw lo hi d)) []
theorem is_between_ok (m : M g) : FnM g 2 "is_between" ["value", "low", "high"] sp_is_between := m_is_between m fun ws bs res h hl => by
  obtain ⟨d, lo, hi, rfl, rfl, rfl⟩ := h
  refine fnD (eb_one (es_ret (ev_and (k := isInt d) (k' := isBtw lo hi d) (ev_call (is_integer_ok m).f (ea_cons (nm 0) ea_nil) ⟨d, rfl, rfl, rfl⟩) fun hk => ?_))) (by cases d <;> rfl)
  obtain ⟨v, rfl⟩ : ∃ v, d = .int v := by cases d <;> first | exact ⟨_, rfl⟩ | cases hk
  exact ev_and1 (ev_lele (nm 1) (nm 0) (nm 2))
/-! ### is_tuple -/
def isTup (lo hi : Int) : PyData → Bool
  | .tuple ds => decide (lo ≤ ds.length) && decide ((ds.length : Int) ≤ hi)
  | _ => false
def sp_is_tuple : FSpec := fun ws bs res => ∃ d lo hi, ws = [.dat d, .dat (.int lo), .dat (.int hi)] ∧ bs = [] ∧ res = .d (.bool (isTup lo hi d)) []
theorem is_tuple_ok (m : M g) : FnM g 1 "is_tuple" ["value", "low", "high"] sp_is_tuple := m_is_tuple m fun ws bs res h hl => by
  obtain ⟨d, lo, hi, rfl, rfl, rfl⟩ := h
  refine fnD (eb_one (es_ret (ev_and (k := kTup d) (k' := isTup lo hi d) (ev_isi (bi (f_isinstance m) bt_isinstance) (bi (f_tuple m) bt_tuple) (nm 0) (kit_tup d)) fun hk => ?_))) (by cases d <;> rfl)
  obtain ⟨ds, rfl⟩ : ∃ ds, d = .tuple ds := by cases d <;> first | exact ⟨_, rfl⟩ | cases hk
  exact ev_and1 (ev_lele (nm 1) (ev_lenT (bi (f_len m) bt_len) (nm 0)) (nm 2))
/-! ### anew: the same data -/
def dep : Nat → PyData → Prop
  | _, .none => True
  | _, .bool _ => True
  | _, .int _ => True
  | _, .str _ => True
  | 0, _ => False
  | n + 1, .list ds => ds.length ≤ sizeLine ∧ ∀ x ∈ ds, dep n x
  | n + 1, .tuple ds => ds.length ≤ sizeLine ∧ ∀ x ∈ ds, dep n x
  | _, _ => False
def anewR : PyData → Res
  | .list ds => .o ds []
  | d => .d d []
def sp_anew (n : Nat) : FSpec := fun ws bs res => ∃ d, dep n d ∧ ws = [.dat d] ∧ bs = [] ∧ res = anewR d
theorem ev_anew {q : Q} {e : Expr} {σ σ1 : S} {d : PyData} {n : Nat} {pos p : Pos} (h : Fn q "anew" ["value"] (sp_anew n)) (he : EvD q e σ d σ1) (hd : dep n d) (hs : ∀ env, starEach [e] env = (false, eval e env) :: starEach [] env := by intro _; rfl) : EvD q (.Call (.Name "anew" p) [e] [] pos) σ d σ1 := by
  have hpl : ∀ env, (backTo pos (starEach ([] : List Expr) env)).any (·.1) = false := fun _ => rfl
  cases d with
  | list ds => exact (eo_call h (ea_cons he ea_nil hs) ⟨_, hd, rfl, rfl, rfl⟩ rfl hs hpl).data
  | _ => exact ev_call h (ea_cons he ea_nil hs) ⟨_, hd, rfl, rfl, rfl⟩ rfl hs hpl
theorem anew_sc (m : M g) {d : PyData} {k : Nat} (e1 : kLst d = false) (e2 : kTup d = false) : EvFn (q_anew g k) (defBody s_anew) [.dat d] [] (anewR d) := by
  have e3 : anewR d = .d d [] := by cases d <;> first | rfl | cases e1
  rw [e3]
  exact fnD (eb_cons (es_ifF (EvD.t (ev_isi (bi (f_isinstance m) bt_isinstance) (bi (f_list m) bt_list) (nm 0) ((kit_lst d).trans (congrArg some e1)))) eb_nil) (eb_cons (es_ifF (EvD.t (ev_isi (bi (f_isinstance m) bt_isinstance) (bi (f_tuple m) bt_tuple) (nm 0) ((kit_tup d).trans (congrArg some e2)))) eb_nil) (eb_one (es_ret (nm 0))))) rfl
theorem anew_ok (m : M g) : ∀ n, FnM g (n + 1) "anew" ["value"] (sp_anew n) := fun n => by
  induction n with
  | zero =>
    refine m_anew m fun ws bs res h hl => ?_
    obtain ⟨d, hd, rfl, rfl, rfl⟩ := h
    exact anew_sc m (by cases d <;> first | rfl | exact hd.elim) (by cases d <;> first | rfl | exact hd.elim)
  | succ n ih =>
    refine m_anew m fun ws bs res h hl => ?_
    obtain ⟨d, hd, rfl, rfl, rfl⟩ := h
    cases d with
    | list ds =>
      refine fnO (eb_end (es_ifT (EvD.t (ev_isi (bi (f_isinstance m) bt_isinstance) (bi (f_list m) bt_list) (nm 0) (kit_lst _))) (eb_one (es_retO (eo_map 1 (f := id) (ei_list (nm 0)) ?_ hd.1 (fun d h => ?_) (BlkOk.of ?_) (ss_ 1))))) trivial) (List.map_id _)
      · rintro w ⟨⟩
        exact trivial
      · exact ev_anew ((ih).fn rfl (Nat.le_refl _) rfl rfl) (nm 1) (hd.2 d h)
      · rfl
    | tuple ds =>
      refine fnD (eb_cons (es_ifF (EvD.t (ev_isi (bi (f_isinstance m) bt_isinstance) (bi (f_list m) bt_list) (nm 0) (kit_lst _))) eb_nil) (eb_end (es_ifT (EvD.t (ev_isi (bi (f_isinstance m) bt_isinstance) (bi (f_tuple m) bt_tuple) (nm 0) (kit_tup _))) (eb_one (es_ret (ev_tupleL (bi (f_tuple m) bt_tuple) (EvO.lst (eo_map 1 (f := id) (ei_tup (nm 0)) ?_ hd.1 (fun d h => ?_) (BlkOk.of ?_) (ss_ 1))))))) trivial)) (congrArg PyData.tuple (List.map_id _))
      · rintro w ⟨⟩
        exact trivial
      · exact ev_anew ((ih).fn rfl (Nat.le_refl _) rfl rfl) (nm 1) (hd.2 d h)
      · rfl
    | dict kvs => exact hd.elim
    | _ => exact anew_sc m rfl rfl
end
end TR

set_option Elab.async false
set_option linter.all false
set_option maxRecDepth 100000
set_option maxHeartbeats 2000000
namespace TR
open PySem PySem.Spec L2
section
variable {g : G}
/-! ### words -/
abbrev alph : Str := "abcdefghijkl"
/-- the letters of the first n -/
def lets (n : Int) : List Nat := (cutS alph none (some n)).cps.toList
def isWord (n : Int) : PyData → Bool
  | .str y => y.cps.toList.all fun c => decide (c ∈ lets n)
  | _ => false
def small : PyData → Prop
  | .str y => y.length ≤ 1000
  | _ => True
def sp_is_word : FSpec := fun ws bs res => ∃ n d, small d ∧ ws = [.dat (.int n), .dat d] ∧ bs = [] ∧ res = .d (.bool (isWord n d)) []
theorem is_word_ok (m : M g) : FnM g 1 "is_word" ["n", "value"] sp_is_word := m_is_word m fun ws bs res h hl => by
  obtain ⟨n, d, sm, rfl, rfl, rfl⟩ := h
  refine fnD (eb_one (es_ret (ev_and (k := kStr d) (k' := isWord n d) (ev_isi (bi (f_isinstance m) bt_isinstance) (bi (f_str m) bt_str) (nm 1) (kit_str d)) fun hk => ?_))) (by cases d <;> rfl)
  obtain ⟨y, rfl⟩ : ∃ y, d = .str y := by cases d <;> first | exact ⟨_, rfl⟩ | cases hk
  refine ev_and1 ((ev_all (bs := y.cps.toList.map fun c => decide (c ∈ lets n)) (bi (f_all m) bt_all) (EvO.lst ?_)).to ?_)
  · have e : (y.cps.toList.map fun c => decide (c ∈ lets n)).map PyData.bool = (signs y).map fun d => match d with | .str z => .bool (decide ((z.cps.getD 0 0) ∈ lets n)) | d => d := by
      unfold signs
      rw [List.map_map, List.map_map]
      rfl
    rw [e]
    refine eo_map 2 (ei_str (nm 1)) ?_ ?_ (fun d hd => ?_) (BlkOk.of ?_) (ss_ 2)
    · rintro w ⟨⟩
      trivial
    · have : (signs y).length = y.length := by simp [signs]; rfl
      rw [this]
      have := sizeLine_eq
      have := (show y.length ≤ 1000 from sm)
      omega
    · obtain ⟨c, _, rfl⟩ := List.mem_map.mp hd
      exact EvC.v (ec_inS (nm 2) (ev_slS (gs (c_ALPHABET m)) ep_none (ep_some (nm 0)) (by decide +kernel)) rfl)
    · rfl
  · show PyData.bool ((y.cps.toList.map fun c => decide (c ∈ lets n)).all id) = .bool (y.cps.toList.all fun c => decide (c ∈ lets n))
    rw [List.all_map]
    rfl
/-! ### the errors -/
abbrev prog36 : Program := PySem.Challenge.pw_tonguerules_k36_distances_of_words
theorem err_ok (m : M g) (hP : g.P = prog36) {q : Q} {x : Str} (hq : q.g = g) (hx : x ∈ ([("InvalidWord" : Str), "InvalidPrices"] : List Str)) (hm : g.mg x = some (.ref (He.ga g.K x))) (gl : GlQ q x) (nd : (x == ("__debug__" : Str)) = false) (k1 : 1 ≤ q.k) : ErrC q x (He.ga g.K x) := by
  subst hq
  exact ⟨⟨_, _, _, err_of (file := "/claim/cut.py") (by rw [hP]; rfl) (by rw [hP]; decide +kernel) m.c.xb (show inW q.g.K (ia q.g.K) = iv from m.c.i) rfl rfl rfl rfl hx hm⟩, gl, nd, k1⟩
theorem m1 : ("InvalidWord" : Str) ∈ ([("InvalidWord" : Str), "InvalidPrices"] : List Str) := .head _
theorem m2 : ("InvalidPrices" : Str) ∈ ([("InvalidWord" : Str), "InvalidPrices"] : List Str) := .tail _ (.head _)
/-! ### need_word -/
def sp_need_word (g : G) : FSpec := fun ws bs res => ∃ n d, small d ∧ ws = [.dat (.int n), .dat d] ∧ bs = [] ∧ ((isWord n d = true ∧ res = .d .none []) ∨ (isWord n d = false ∧ dep 1 d ∧ res = .x (He.ga g.K "InvalidWord") d []))
theorem need_word_ok (m : M g) (hP : g.P = prog36) : FnM g 3 "need_word" ["n", "word"] (sp_need_word g) := m_need_word m fun ws bs res h hl => by
  obtain ⟨n, d, sm, rfl, rfl, ⟨hw, rfl⟩ | ⟨hw, hd, rfl⟩⟩ := h
  · exact fnN (eb_one (es_ifF (et_not (k := true) (EvD.t (ev_call (is_word_ok m).f (ea_cons (nm 0) (ea_cons (nm 1) ea_nil)) ⟨n, d, sm, rfl, rfl, by rw [hw]⟩))) eb_nil))
  · exact fnX (ex_here (ex_ifT (et_not (k := false) (EvD.t (ev_call (is_word_ok m).f (ea_cons (nm 0) (ea_cons (nm 1) ea_nil)) ⟨n, d, sm, rfl, rfl, by rw [hw]⟩))) (ex_here (ex_raise (err_ok m hP rfl m1 (g_InvalidWord m) rfl rfl (by show 1 ≤ 2; decide)) (ev_anew ((anew_ok m 1).fn rfl (Nat.le_refl _) rfl rfl) (nm 1) hd))))) rfl
/-! ### prices -/
def arePrices : PyData → Bool
  | .tuple ds => decide (ds.length = 4) && ds.all (isBtw 1 1000)
  | _ => false
def small2 : PyData → Prop
  | .tuple ds => ds.length ≤ 1000
  | _ => True
def sp_are_prices : FSpec := fun ws bs res => ∃ d, small2 d ∧ ws = [.dat d] ∧ bs = [] ∧ res = .d (.bool (arePrices d)) []
theorem are_prices_ok (m : M g) : FnM g 3 "are_prices" ["value"] sp_are_prices := m_are_prices m fun ws bs res h hl => by
  obtain ⟨d, sm, rfl, rfl, rfl⟩ := h
  refine fnD (eb_one (es_ret (ev_and (k := isTup 4 4 d) (k' := arePrices d) (ev_call (is_tuple_ok m).f (ea_cons (nm 0) (ea_cons ev_int (ea_cons ev_int ea_nil))) ⟨d, 4, 4, rfl, rfl, rfl⟩) fun hk => ?_))) ?_
  · obtain ⟨ds, rfl⟩ : ∃ ds, d = .tuple ds := by cases d <;> first | exact ⟨_, rfl⟩ | cases hk
    refine ev_and1 ((ev_all (bs := ds.map (isBtw 1 1000)) (bi (f_all m) bt_all) (EvO.lst ?_)).to ?_)
    · have e : (ds.map (isBtw 1 1000)).map PyData.bool = ds.map fun d => .bool (isBtw 1 1000 d) := by rw [List.map_map]; rfl
      rw [e]
      refine eo_map 1 (ei_tup (nm 0)) ?_ ?_ (fun d hd => ?_) (BlkOk.of ?_) (ss_ 1)
      · rintro w ⟨⟩
        trivial
      · have := sizeLine_eq
        have := (show ds.length ≤ 1000 from sm)
        omega
      · exact ev_call (is_between_ok m).f (ea_cons (nm 1) (ea_cons ev_int (ea_cons (gi (c_MOST_PRICE m)) ea_nil))) ⟨d, 1, 1000, rfl, rfl, rfl⟩
      · rfl
    · show PyData.bool ((ds.map (isBtw 1 1000)).all id) = .bool (decide (ds.length = 4) && ds.all (isBtw 1 1000))
      have h4 : ds.length = 4 := by
        have h0 : (decide ((4 : Int) ≤ ds.length) && decide ((ds.length : Int) ≤ 4)) = true := hk
        simp only [Bool.and_eq_true, decide_eq_true_eq] at h0
        omega
      rw [List.all_map, h4]
      simp
  · cases d with
    | tuple ds =>
      show PyData.bool ((decide ((4 : Int) ≤ ds.length) && decide ((ds.length : Int) ≤ 4)) && (decide (ds.length = 4) && ds.all (isBtw 1 1000))) = .bool (decide (ds.length = 4) && ds.all (isBtw 1 1000))
      by_cases h4 : ds.length = 4
      · simp [h4]
      · simp [h4]
    | _ => rfl
def sp_need_prices (g : G) : FSpec := fun ws bs res => ∃ d, small2 d ∧ ws = [.dat d] ∧ bs = [] ∧ ((arePrices d = true ∧ res = .d .none []) ∨ (arePrices d = false ∧ dep 1 d ∧ res = .x (He.ga g.K "InvalidPrices") d []))
theorem need_prices_ok (m : M g) (hP : g.P = prog36) : FnM g 4 "need_prices" ["prices"] (sp_need_prices g) := m_need_prices m fun ws bs res h hl => by
  obtain ⟨d, sm, rfl, rfl, ⟨hw, rfl⟩ | ⟨hw, hd, rfl⟩⟩ := h
  · exact fnN (eb_one (es_ifF (et_not (k := true) (EvD.t (ev_call (are_prices_ok m).f (ea_cons (nm 0) ea_nil) ⟨d, sm, rfl, rfl, by rw [hw]⟩))) eb_nil))
  · exact fnX (ex_here (ex_ifT (et_not (k := false) (EvD.t (ev_call (are_prices_ok m).f (ea_cons (nm 0) ea_nil) ⟨d, sm, rfl, rfl, by rw [hw]⟩))) (ex_here (ex_raise (err_ok m hP rfl m2 (g_InvalidPrices m) rfl rfl (by show 1 ≤ 3; decide)) (ev_anew ((anew_ok m 1).fn rfl (by show 2 ≤ 3; decide) rfl rfl) (nm 0) hd))))) rfl
end
end TR

/-! the least price between two words: the plain mathematics of two tables -/
namespace TR
/-- prices of put, leave, change, turn -/
structure Pr where
  put : Int
  leave : Int
  change : Int
  turn : Int
/-- the turn of two letters: behind i of u and j of v, both at least two -/
def Tw (u v : Nat → Nat) (i j : Nat) : Prop := u i ≠ u (i + 1) ∧ u i = v (j + 1) ∧ u (i + 1) = v j
instance (u v : Nat → Nat) (i j : Nat) : Decidable (Tw u v i j) := by unfold Tw; exact inferInstance
/-- the price of the first i letters of u and the first j of v -/
def D (p : Pr) (u v : Nat → Nat) : Nat → Nat → Int
  | i, 0 => p.leave * i
  | 0, j => p.put * j
  | i + 1, j + 1 =>
    let m := min (min (D p u v (i + 1) j + p.put) (D p u v i (j + 1) + p.leave)) (D p u v i j + if u i = v j then 0 else p.change)
    match i, j with
    | i' + 1, j' + 1 => if Tw u v i' j' then min m (D p u v i' j' + p.turn) else m
    | _, _ => m
termination_by i j => i + j
section
variable {p : Pr} {u v u' v' : Nat → Nat} {i j : Nat}
theorem D_i0 : D p u v i 0 = p.leave * i := by rw [D.eq_def]
theorem D_0j : D p u v 0 j = p.put * j := by
  cases j with
  | zero => rw [D_i0]; simp
  | succ j => rw [D.eq_def]
def cost (p : Pr) (u v : Nat → Nat) (i j : Nat) : Int := if u i = v j then 0 else p.change
theorem D_min : D p u v (i + 1) (j + 1) ≤ D p u v (i + 1) j + p.put ∧ D p u v (i + 1) (j + 1) ≤ D p u v i (j + 1) + p.leave ∧ D p u v (i + 1) (j + 1) ≤ D p u v i j + cost p u v i j ∧
    (∀ i' j', i = i' + 1 → j = j' + 1 → Tw u v i' j' → D p u v (i + 1) (j + 1) ≤ D p u v i' j' + p.turn) ∧
    (D p u v (i + 1) (j + 1) = D p u v (i + 1) j + p.put ∨ D p u v (i + 1) (j + 1) = D p u v i (j + 1) + p.leave ∨ D p u v (i + 1) (j + 1) = D p u v i j + cost p u v i j ∨
      ∃ i' j', i = i' + 1 ∧ j = j' + 1 ∧ Tw u v i' j' ∧ D p u v (i + 1) (j + 1) = D p u v i' j' + p.turn) := by
  have e : D p u v (i + 1) (j + 1) = (let m := min (min (D p u v (i + 1) j + p.put) (D p u v i (j + 1) + p.leave)) (D p u v i j + cost p u v i j)
    match i, j with
    | i' + 1, j' + 1 => if Tw u v i' j' then min m (D p u v i' j' + p.turn) else m
    | _, _ => m) := by rw [D.eq_def]; rfl
  cases i with
  | zero =>
    dsimp only at e
    rw [e]
    refine ⟨by omega, by omega, by omega, fun i' j' z => by omega, ?_⟩
    omega
  | succ i =>
    cases j with
    | zero =>
      dsimp only at e
      rw [e]
      refine ⟨by omega, by omega, by omega, fun i' j' _ z => by omega, ?_⟩
      omega
    | succ j =>
      dsimp only at e
      by_cases t : Tw u v i j
      · rw [if_pos t] at e
        rw [e]
        refine ⟨by omega, by omega, by omega, fun i' j' z1 z2 _ => ?_, ?_⟩
        · have e1 : i = i' := by omega
          have e2 : j = j' := by omega
          subst e1 e2
          omega
        · by_cases h : min (min (D p u v (i + 1 + 1) (j + 1) + p.put) (D p u v (i + 1) (j + 1 + 1) + p.leave)) (D p u v (i + 1) (j + 1) + cost p u v (i + 1) (j + 1)) ≤ D p u v i j + p.turn
          · omega
          · exact .inr (.inr (.inr ⟨i, j, rfl, rfl, t, by omega⟩))
      · rw [if_neg t] at e
        rw [e]
        refine ⟨by omega, by omega, by omega, fun i' j' z1 z2 t' => ?_, ?_⟩
        · have e1 : i = i' := by omega
          have e2 : j = j' := by omega
          subst e1 e2
          exact absurd t' t
        · omega
/-- a price that has the ways' properties is the price -/
theorem D_of {x : Int} (h1 : x ≤ D p u v (i + 1) j + p.put) (h2 : x ≤ D p u v i (j + 1) + p.leave) (h3 : x ≤ D p u v i j + cost p u v i j) (h4 : ∀ i' j', i = i' + 1 → j = j' + 1 → Tw u v i' j' → x ≤ D p u v i' j' + p.turn)
    (h5 : x = D p u v (i + 1) j + p.put ∨ x = D p u v i (j + 1) + p.leave ∨ x = D p u v i j + cost p u v i j ∨ ∃ i' j', i = i' + 1 ∧ j = j' + 1 ∧ Tw u v i' j' ∧ x = D p u v i' j' + p.turn) : x = D p u v (i + 1) (j + 1) := by
  obtain ⟨g1, g2, g3, g4, g5⟩ := D_min (p := p) (u := u) (v := v) (i := i) (j := j)
  have le1 : x ≤ D p u v (i + 1) (j + 1) := by
    rcases g5 with e | e | e | ⟨i', j', a, b, t, e⟩
    · omega
    · omega
    · omega
    · have := h4 i' j' a b t; omega
  have le2 : D p u v (i + 1) (j + 1) ≤ x := by
    rcases h5 with e | e | e | ⟨i', j', a, b, t, e⟩
    · omega
    · omega
    · omega
    · have := g4 i' j' a b t; omega
  omega
/-- only the letters that are there count -/
theorem D_congr : ∀ n i j, i + j ≤ n → (∀ k, k < i → u k = u' k) → (∀ k, k < j → v k = v' k) → D p u v i j = D p u' v' i j := by
  intro n
  induction n with
  | zero =>
    intro i j h _ _
    have e1 : i = 0 := by omega
    have e2 : j = 0 := by omega
    subst e1 e2
    rw [D_i0, D_i0]
  | succ n ih =>
    intro i j h hu hv
    cases j with
    | zero => rw [D_i0, D_i0]
    | succ j =>
      cases i with
      | zero => rw [D_0j, D_0j]
      | succ i =>
        obtain ⟨g1, g2, g3, g4, g5⟩ := D_min (p := p) (u := u) (v := v) (i := i) (j := j)
        have c1 := ih (i + 1) j (by omega) hu (fun k hk => hv k (by omega))
        have c2 := ih i (j + 1) (by omega) (fun k hk => hu k (by omega)) hv
        have c3 := ih i j (by omega) (fun k hk => hu k (by omega)) (fun k hk => hv k (by omega))
        have c4 : cost p u v i j = cost p u' v' i j := by unfold cost; rw [hu i (by omega), hv j (by omega)]
        have tw : ∀ i' j', i = i' + 1 → j = j' + 1 → (Tw u v i' j' ↔ Tw u' v' i' j') := fun i' j' a b => by
          unfold Tw
          rw [hu i' (by omega), hu (i' + 1) (by omega), hv j' (by omega), hv (j' + 1) (by omega)]
        have c5 : ∀ i' j', i = i' + 1 → j = j' + 1 → D p u v i' j' = D p u' v' i' j' := fun i' j' a b => ih i' j' (by omega) (fun k hk => hu k (by omega)) (fun k hk => hv k (by omega))
        refine D_of (by omega) (by omega) (by omega) (fun i' j' a b t => ?_) ?_
        · have := g4 i' j' a b ((tw i' j' a b).mpr t)
          have := c5 i' j' a b
          omega
        · rcases g5 with e | e | e | ⟨i', j', a, b, t, e⟩
          · exact .inl (by omega)
          · exact .inr (.inl (by omega))
          · exact .inr (.inr (.inl (by omega)))
          · exact .inr (.inr (.inr ⟨i', j', a, b, (tw i' j' a b).mp t, by rw [e, c5 i' j' a b]⟩))
theorem D_congr' (hu : ∀ k, k < i → u k = u' k) (hv : ∀ k, k < j → v k = v' k) : D p u v i j = D p u' v' i j := D_congr (i + j) i j (Nat.le_refl _) hu hv
/-- put and leave exchanged, the words too -/
def Pr.swap (p : Pr) : Pr := ⟨p.leave, p.put, p.change, p.turn⟩
theorem D_swap : ∀ n i j, i + j ≤ n → D p u v i j = D p.swap v u j i := by
  intro n
  induction n with
  | zero =>
    intro i j h
    have e1 : i = 0 := by omega
    have e2 : j = 0 := by omega
    subst e1 e2
    rw [D_i0, D_i0]
    simp
  | succ n ih =>
    intro i j h
    cases j with
    | zero => rw [D_i0, D_0j]; rfl
    | succ j =>
      cases i with
      | zero => rw [D_0j, D_i0]; rfl
      | succ i =>
        obtain ⟨g1, g2, g3, g4, g5⟩ := D_min (p := p) (u := u) (v := v) (i := i) (j := j)
        have c1 := ih (i + 1) j (by omega)
        have c2 := ih i (j + 1) (by omega)
        have c3 := ih i j (by omega)
        have c4 : cost p u v i j = cost p.swap v u j i := by
          unfold cost
          by_cases z : u i = v j
          · rw [if_pos z, if_pos z.symm]
          · rw [if_neg z, if_neg (Ne.symm z)]; rfl
        have tw : ∀ i' j', Tw u v i' j' ↔ Tw v u j' i' := fun i' j' => by
          unfold Tw
          constructor
          · rintro ⟨a, b, c⟩
            exact ⟨by rw [← b, ← c]; exact Ne.symm a, c.symm, b.symm⟩
          · rintro ⟨a, b, c⟩
            exact ⟨by rw [← b, ← c]; exact Ne.symm a, c.symm, b.symm⟩
        have c5 : ∀ i' j', i = i' + 1 → j = j' + 1 → D p u v i' j' = D p.swap v u j' i' := fun i' j' a b => ih i' j' (by omega)
        have sp : p.swap.put = p.leave := rfl
        have sl : p.swap.leave = p.put := rfl
        have st : p.swap.turn = p.turn := rfl
        refine D_of (p := p.swap) (u := v) (v := u) (i := j) (j := i) (by omega) (by omega) (by omega) (fun j' i' b a t => ?_) ?_
        · have := g4 i' j' a b ((tw i' j').mpr t)
          have := c5 i' j' a b
          omega
        · rcases g5 with e | e | e | ⟨i', j', a, b, t, e⟩
          · exact .inr (.inl (by omega))
          · exact .inl (by omega)
          · exact .inr (.inr (.inl (by omega)))
          · exact .inr (.inr (.inr ⟨j', i', b, a, (tw i' j').mp t, by rw [e, c5 i' j' a b, st]⟩))
theorem D_swap' : D p u v i j = D p.swap v u j i := D_swap (i + j) i j (Nat.le_refl _)
/-- prices that are none less than one -/
structure Pr.Pos (p : Pr) : Prop where
  put : 1 ≤ p.put
  leave : 1 ≤ p.leave
  change : 1 ≤ p.change
  turn : 1 ≤ p.turn
theorem cost_nonneg (h : p.Pos) : 0 ≤ cost p u v i j := by
  unfold cost
  have := h.change
  split <;> omega
theorem mul_nonneg' {a : Int} (h : 1 ≤ a) (n : Nat) : (n : Int) ≤ a * n := by
  have := Int.mul_le_mul_of_nonneg_right h (Int.natCast_nonneg n)
  omega
theorem D_nonneg (h : p.Pos) : ∀ n i j, i + j ≤ n → 0 ≤ D p u v i j := by
  intro n
  have hp := h.put
  have hl := h.leave
  have ht := h.turn
  induction n with
  | zero =>
    intro i j z
    have e2 : j = 0 := by omega
    subst e2
    rw [D_i0]
    have := mul_nonneg' hl i
    omega
  | succ n ih =>
    intro i j z
    cases j with
    | zero => rw [D_i0]; have := mul_nonneg' hl i; omega
    | succ j =>
      cases i with
      | zero => rw [D_0j]; have := mul_nonneg' hp (j + 1); omega
      | succ i =>
        obtain ⟨g1, g2, g3, g4, g5⟩ := D_min (p := p) (u := u) (v := v) (i := i) (j := j)
        have c1 := ih (i + 1) j (by omega)
        have c2 := ih i (j + 1) (by omega)
        have c3 := ih i j (by omega)
        have c4 := cost_nonneg (u := u) (v := v) (i := i) (j := j) h
        rcases g5 with e | e | e | ⟨i', j', a, b, t, e⟩
        · omega
        · omega
        · omega
        · have := ih i' j' (by omega); omega
/-- the price is none exactly for equal words -/
theorem D_zero (h : p.Pos) : ∀ n i j, i + j ≤ n → D p u v i j = 0 → i = j ∧ ∀ k, k < i → u k = v k := by
  intro n
  have hp := h.put
  have hl := h.leave
  have ht := h.turn
  have hc := h.change
  induction n with
  | zero =>
    intro i j z _
    exact ⟨by omega, fun k hk => by omega⟩
  | succ n ih =>
    intro i j z hz
    cases j with
    | zero =>
      rw [D_i0] at hz
      have := mul_nonneg' hl i
      have e : i = 0 := by omega
      subst e
      exact ⟨rfl, fun k hk => by omega⟩
    | succ j =>
      cases i with
      | zero =>
        rw [D_0j] at hz
        have := mul_nonneg' hp (j + 1)
        omega
      | succ i =>
        obtain ⟨g1, g2, g3, g4, g5⟩ := D_min (p := p) (u := u) (v := v) (i := i) (j := j)
        have c1 := D_nonneg (u := u) (v := v) h n (i + 1) j (by omega)
        have c2 := D_nonneg (u := u) (v := v) h n i (j + 1) (by omega)
        have c3 := D_nonneg (u := u) (v := v) h n i j (by omega)
        rcases g5 with e | e | e | ⟨i', j', a, b, t, e⟩
        · omega
        · omega
        · unfold cost at e
          by_cases q : u i = v j
          · rw [if_pos q] at e
            obtain ⟨q1, q2⟩ := ih i j (by omega) (by omega)
            refine ⟨by omega, fun k hk => ?_⟩
            by_cases hki : k = i
            · subst hki; rw [q, ← q1]
            · exact q2 k (by omega)
          · rw [if_neg q] at e; omega
        · have := D_nonneg (u := u) (v := v) h n i' j' (by omega); omega
theorem D_self (h : p.Pos) : ∀ i, D p u u i i = 0 := by
  intro i
  induction i with
  | zero => rw [D_i0]; simp
  | succ i ih =>
    obtain ⟨_, _, g3, _, _⟩ := D_min (p := p) (u := u) (v := u) (i := i) (j := i)
    have c : cost p u u i i = 0 := if_pos rfl
    have := D_nonneg (u := u) (v := u) h (i + 1 + (i + 1)) (i + 1) (i + 1) (Nat.le_refl _)
    omega
theorem D_le (h : p.Pos) : ∀ j i, D p u v i j ≤ p.leave * i + p.put * j := by
  intro j i
  induction j with
  | zero => rw [D_i0]; simp
  | succ j ih =>
    cases i with
    | zero => rw [D_0j]; simp
    | succ i =>
      obtain ⟨g1, _⟩ := D_min (p := p) (u := u) (v := v) (i := i) (j := j)
      have e : p.put * ((j + 1 : Nat) : Int) = p.put * j + p.put := by rw [Int.natCast_add, Int.mul_add]; simp
      omega
end
end TR

set_option Elab.async false
set_option linter.all false
set_option maxRecDepth 100000
set_option maxHeartbeats 4000000
namespace TR
open PySem PySem.Spec L2
/-! ### small facts of values -/
theorem atI_nat {α : Type} {l : List α} {n : Nat} {d : α} (h : l[n]? = some d) : atI l (n : Int) = some d := by
  have hl := lt_of_get h
  unfold atI ixN
  rw [if_pos (by omega), if_pos (by omega)]
  simpa using h
theorem atI_last {α : Type} {l : List α} {d : α} (h : l.getLast? = some d) : atI l (-1) = some d := by
  rw [List.getLast?_eq_getElem?] at h
  have hl := lt_of_get h
  unfold atI ixN
  rw [if_neg (by omega), if_pos (by omega)]
  have e : ((-1 : Int) + (l.length : Int)).toNat = l.length - 1 := by omega
  simpa [e] using h
def ltr (w : Str) (k : Nat) : Nat := w.cps.getD k 0
theorem ltr_get {w : Str} {k : Nat} (h : k < w.length) : w.cps.toList[k]? = some (ltr w k) := by
  have h' : k < w.cps.size := h
  unfold ltr
  rw [Array.getElem?_toList, Array.getElem?_eq_getElem h', Array.getD_eq_getD_getElem?, Array.getElem?_eq_getElem h']
  rfl
def prD (p : Pr) : PyData := .tuple [.int p.put, .int p.leave, .int p.change, .int p.turn]
theorem cut_two {w : Str} {k : Nat} (h : k + 2 ≤ w.length) : cutS w (some (k : Int)) (some ((k + 2 : Nat) : Int)) = ⟨#[ltr w k, ltr w (k + 1)]⟩ := by
  unfold cutS
  have a1 : min k w.length = k := by omega
  have a2 : min (k + 2) w.length = k + 2 := by omega
  rw [HT.sIx_nat, HT.sIx_nat, a1, a2]
  have e : k + 2 - k = 2 := by omega
  rw [e]
  have g1 := ltr_get (w := w) (k := k) (by omega)
  have g2 := ltr_get (w := w) (k := k + 1) (by omega)
  have e3 : (w.cps.toList.drop k).take 2 = [ltr w k, ltr w (k + 1)] := by
    apply List.ext_getElem?
    intro i
    match i with
    | 0 => simpa [List.getElem?_take, List.getElem?_drop] using g1
    | 1 => simpa [List.getElem?_take, List.getElem?_drop] using g2
    | i + 2 => simp [List.getElem?_take]; intro z; omega
  rw [e3]
theorem cut_one {w : Str} (h : 1 ≤ w.length) : cutS w (some (0 : Int)) (some (1 : Int)) = ⟨#[ltr w 0]⟩ := by
  have z := HT.sIx_nat w.length 0 0
  have z2 := HT.sIx_nat w.length w.length 1
  unfold cutS
  rw [show (0 : Int) = ((0 : Nat) : Int) from rfl, show (1 : Int) = ((1 : Nat) : Int) from rfl, z, z2, show min 0 w.length = 0 by omega, show min 1 w.length = 1 by omega]
  have g1 := ltr_get (w := w) (k := 0) (by omega)
  have e3 : (w.cps.toList.drop 0).take (1 - 0) = [ltr w 0] := by
    apply List.ext_getElem?
    intro i
    match i with
    | 0 => simpa using g1
    | i + 1 => simp; omega
  rw [e3]
theorem str1 {a b : Nat} : ((⟨#[a]⟩ : Str) = ⟨#[b]⟩) ↔ a = b := by simp
theorem str2 {a b c d : Nat} : ((⟨#[a, b]⟩ : Str) = ⟨#[c, d]⟩) ↔ a = c ∧ b = d := by simp
theorem rev2 {a b : Nat} : revS ⟨#[a, b]⟩ = ⟨#[b, a]⟩ := rfl
theorem ranged_get {lo : Int} {n k : Nat} {d : PyData} (h : (ranged lo n)[k]? = some d) : d = .int (lo + (k : Int)) ∧ k < n := by
  have hk : k < n := by
    have := lt_of_get h
    simpa [ranged] using this
  have e : (ranged lo n)[k]? = some (.int (lo + (k : Int))) := by simp [ranged, hk]
  rw [e] at h
  cases h
  exact ⟨rfl, hk⟩
theorem ranged_mem {lo : Int} {n : Nat} {d : PyData} (h : d ∈ ranged lo n) : ∃ k : Nat, k < n ∧ d = .int (lo + (k : Int)) := by
  obtain ⟨k, hk⟩ := List.getElem?_of_mem h
  obtain ⟨e, hl⟩ := ranged_get hk
  exact ⟨k, hl, e⟩
section
variable {g : G}
/-! ### first_row -/
def sp_first_row : FSpec := fun ws bs res => ∃ p w, w.length ≤ 1000 ∧ ws = [.dat (prD p), .dat (.str w)] ∧ bs = [] ∧ res = .d (.tuple ((List.range (w.length + 1)).map fun (i : Nat) => PyData.int (p.leave * (i : Int)))) []
theorem first_row_ok (m : M g) : FnM g 1 "first_row" ["prices", "word"] sp_first_row := m_first_row m fun ws bs res h hl => by
  obtain ⟨p, w, sm, rfl, rfl, rfl⟩ := h
  have sz := sizeLine_eq
  refine fnD (eb_one (es_ret (ev_tupleL (bi (f_tuple m) bt_tuple) (EvO.lst (eo_map 2 (f := fun d => match d with | .int i => .int (p.leave * i) | d => d) (ei_range1 (n := (w.length : Int) + 1) (bi (f_range m) bt_range) (ev_add (ev_lenS (bi (f_len m) bt_len) (nm 1) (by omega)) ev_int) (by omega) (by omega)) ?_ ?_ (fun d hd => ?_) (BlkOk.of ?_) (ss_ 2)))))) ?_
  · rintro w ⟨⟩
    trivial
  · simp only [ranged, List.length_map, List.length_range]
    omega
  · obtain ⟨k, hk, rfl⟩ := ranged_mem hd
    exact ev_mul (ev_ixT (nm 0) ev_int rfl) (nm 2) (.inr ⟨by omega, by omega⟩)
  · rfl
  · unfold ranged
    rw [List.map_map]
    have e : ((w.length : Int) + 1).toNat = w.length + 1 := by omega
    rw [e]
    refine congrArg PyData.tuple (List.map_congr_left fun k _ => ?_)
    show PyData.int (p.leave * (0 + (k : Int))) = _
    rw [Int.zero_add]
/-! ### next_row -/
def rowD (p : Pr) (w : Str) (v : Nat → Nat) (j : Nat) : List PyData := (List.range (w.length + 1)).map fun (i : Nat) => PyData.int (D p (ltr w) v i j)
def befT (p : Pr) (w : Str) (v : Nat → Nat) : Nat → PyData
  | 0 => .none
  | j + 1 => .tuple (rowD p w v j)
def wrt (v : Nat → Nat) : Nat → Str
  | 0 => ⟨#[v 0]⟩
  | j + 1 => ⟨#[v j, v (j + 1)]⟩
theorem rowD_get {p : Pr} {w : Str} {v : Nat → Nat} {i j : Nat} (h : i ≤ w.length) : (rowD p w v j)[i]? = some (.int (D p (ltr w) v i j)) := by
  unfold rowD
  rw [List.getElem?_map, List.getElem?_range (by omega)]
  rfl
def sp_next_row : FSpec := fun ws bs res => ∃ p w v j, w.length ≤ 1000 ∧ ws = [.dat (prD p), .dat (.str w), .dat (.tuple [.tuple (rowD p w v j), befT p w v j]), .dat (.str (wrt v j))] ∧ bs = [] ∧ res = .d (.tuple (rowD p w v (j + 1))) []
def TwP (w : Str) (v : Nat → Nat) (j k : Nat) : Prop := 1 ≤ k ∧ 1 ≤ j ∧ Tw (ltr w) v (k - 1) (j - 1)
instance (w : Str) (v : Nat → Nat) (j k : Nat) : Decidable (TwP w v j k) := by unfold TwP; exact inferInstance
def waysI (p : Pr) (w : Str) (v : Nat → Nat) (j k : Nat) : List Int :=
  [D p (ltr w) v (k + 1) j + p.put, D p (ltr w) v k (j + 1) + p.leave, D p (ltr w) v k j + cost p (ltr w) v k j] ++ (if TwP w v j k then [D p (ltr w) v (k - 1) (j - 1) + p.turn] else [])
def foundD (p : Pr) (w : Str) (v : Nat → Nat) (j k : Nat) : List PyData := (List.range (k + 1)).map fun (i : Nat) => PyData.int (D p (ltr w) v i (j + 1))
def nrE (p : Pr) (w : Str) (v : Nat → Nat) (j : Nat) (fo : List PyData) (wi ww : W) : S :=
  ⟨[.dat (prD p), .dat (.str w), .dat (.tuple [.tuple (rowD p w v j), befT p w v j]), .dat (.str (wrt v j)), .dat (.int p.put), .dat (.int p.leave), .dat (.int p.change), .dat (.int p.turn), .dat (.tuple (rowD p w v j)), .dat (befT p w v j),
    .dat (.str ⟨#[v j]⟩), .own (.lst fo), wi, ww], []⟩
def wi (k : Nat) : W := match k with
  | 0 => .un
  | k + 1 => .dat (.int ((k + 1 : Nat) : Int))
def ww (p : Pr) (w : Str) (v : Nat → Nat) (j k : Nat) : W := match k with
  | 0 => .un
  | k + 1 => .own (.lst ((waysI p w v j k).map .int))
def nrS (p : Pr) (w : Str) (v : Nat → Nat) (j k : Nat) : S := nrE p w v j (foundD p w v j k) (wi k) (ww p w v j k)
theorem EvS.to {q : Q} {st : Stmt} {σ : S} {o o' : Out} (h : EvS q st σ o) (e : o = o') : EvS q st σ o' := e ▸ h
theorem EvB.to {q : Q} {sts : List Stmt} {σ : S} {o o' : Out} (h : EvB q sts σ o) (e : o = o') : EvB q sts σ o' := e ▸ h
theorem ways_min {p : Pr} {w : Str} {v : Nat → Nat} {j k : Nat} : D p (ltr w) v (k + 1) (j + 1) ∈ waysI p w v j k ∧ ∀ y ∈ waysI p w v j k, D p (ltr w) v (k + 1) (j + 1) ≤ y := by
  obtain ⟨g1, g2, g3, g4, g5⟩ := D_min (p := p) (u := ltr w) (v := v) (i := k) (j := j)
  unfold waysI
  constructor
  · rcases g5 with e | e | e | ⟨i', j', a, b, t, e⟩
    · rw [e]; simp
    · rw [e]; simp
    · rw [e]; simp
    · subst a b
      have tp : TwP w v (j' + 1) (i' + 1) := ⟨by omega, by omega, t⟩
      rw [if_pos tp, e]
      simp
  · intro y hy
    rcases List.mem_append.mp hy with h | h
    · simp only [List.mem_cons, List.not_mem_nil, or_false] at h
      rcases h with rfl | rfl | rfl
      · exact g1
      · exact g2
      · exact g3
    · split at h
      · rename_i tp
        obtain ⟨a, b, t⟩ := tp
        have e := List.mem_singleton.mp h
        rw [e]
        exact g4 (k - 1) (j - 1) (by omega) (by omega) t
      · exact absurd h List.not_mem_nil
theorem wrt_last (v : Nat → Nat) (j : Nat) : atI (wrt v j).cps.toList (-1) = some (v j) := by
  cases j with
  | zero => exact atI_last rfl
  | succ j => exact atI_last rfl
theorem wrt_len (v : Nat → Nat) (j : Nat) : ((wrt v j).length : Int) = if 1 ≤ j then 2 else 1 := by
  cases j with
  | zero => rfl
  | succ j => rw [if_pos (by omega)]; rfl
theorem wrt_short (v : Nat → Nat) (j : Nat) : (wrt v j).length ≤ 1000 := by
  cases j with
  | zero => exact (by decide : 1 ≤ 1000)
  | succ j => exact (by decide : 2 ≤ 1000)
end
section
variable {g : G}
theorem next_step (m : M g) {p : Pr} {w : Str} {v : Nat → Nat} {j k : Nat} (sm : w.length ≤ 1000) (hk : k < w.length) {b0 : W} {body : List Stmt} {tg it : Expr} {els : List Stmt} {pos : Pos} (hb : (defBody s_next_row)[3]? = some (.For tg it body els pos)) :
    EvB (q_next_row g 0) body (nrE p w v j (foundD p w v j k) (.dat (.int ((k + 1 : Nat) : Int))) b0) (.nx (nrS p w v j (k + 1))) := by
  cases hb
  have sz := sizeLine_eq
  have i1 : (((k + 1 : Nat) : Int) - 1) = ((k : Nat) : Int) := by omega
  have hf : (foundD p w v j k)[k]? = some (.int (D p (ltr w) v k (j + 1))) := by
    unfold foundD
    rw [List.getElem?_map, List.getElem?_range (by omega)]
    rfl
  refine eb_cons (es_setO (ss_ 13) (eo_lst (ds := [.int (D p (ltr w) v (k + 1) j + p.put), .int (D p (ltr w) v k (j + 1) + p.leave), .int (D p (ltr w) v k j + cost p (ltr w) v k j)]) (ea_cons (ev_add (ev_ixT (nm 8) (nm 12) (atI_nat (rowD_get (by omega)))) (nm 4))
    (ea_cons (ev_add (ev_ixN (sl_ 11) rfl ((ev_sub (nm 12) ev_int).to (congrArg PyData.int i1)) rfl (atI_nat hf)) (nm 5))
    (ea_cons (ev_add (ev_ixT (nm 8) ((ev_sub (nm 12) ev_int).to (congrArg PyData.int i1)) (atI_nat (rowD_get (by omega)))) ((ev_if (EvC.t (ec_eqX (ev_ixS (nm 1) ((ev_sub (nm 12) ev_int).to (congrArg PyData.int i1)) (by omega) (atI_nat (ltr_get hk))) (nm 10))) (fun _ => ev_int) fun _ => nm 6).to ?c3)) ea_nil))) (by show 3 ≤ sizeLine; omega))) ?rest
  case c3 =>
    unfold cost
    by_cases h : ltr w k = v j
    · rw [if_pos h, if_pos (decide_eq_true (str1.mpr h))]
    · rw [if_neg h, if_neg (by simpa using h)]
  case rest =>
    have i2 : 1 ≤ k → (((k + 1 : Nat) : Int) - 2) = ((k - 1 : Nat) : Int) := fun h => by omega
    have nz : ∀ n, n < w.length → atI w.cps.toList ((n : Nat) : Int) = some (ltr w n) := fun n h => atI_nat (ltr_get h)
    -- the test
    have tst : decide (TwP w v j k) = (decide ((1 : Int) < ((k + 1 : Nat) : Int)) && (decide ((1 : Int) < ((wrt v j).length : Int)) && (!decide ((⟨#[ltr w (k - 1)]⟩ : Str) = ⟨#[ltr w k]⟩) && decide (cutS w (some (((k + 1 : Nat) : Int) - 2)) (some ((k + 1 : Nat) : Int)) = revS (wrt v j))))) := by
      by_cases hk1 : 1 ≤ k
      · by_cases hj1 : 1 ≤ j
        · obtain ⟨k', rfl⟩ : ∃ k', k = k' + 1 := ⟨k - 1, by omega⟩
          obtain ⟨j', rfl⟩ : ∃ j', j = j' + 1 := ⟨j - 1, by omega⟩
          have e1 : (((k' + 1 + 1 : Nat) : Int) - 2) = ((k' : Nat) : Int) := by omega
          rw [e1, cut_two (by omega), wrt_len, if_pos hj1]
          show decide (TwP w v (j' + 1) (k' + 1)) = (decide ((1 : Int) < ((k' + 1 + 1 : Nat) : Int)) && (decide ((1 : Int) < 2) && (!decide ((⟨#[ltr w k']⟩ : Str) = ⟨#[ltr w (k' + 1)]⟩) && decide ((⟨#[ltr w k', ltr w (k' + 1)]⟩ : Str) = ⟨#[v (j' + 1), v j']⟩))))
          have t1 : decide ((1 : Int) < ((k' + 1 + 1 : Nat) : Int)) = true := decide_eq_true (by omega)
          rw [t1]
          simp only [str1, str2, Bool.true_and, TwP, Tw]
          by_cases a1 : ltr w k' = ltr w (k' + 1)
          · simp [a1]
          · simp [a1]
        · rw [wrt_len, if_neg hj1]
          have : ¬ TwP w v j k := fun h => hj1 h.2.1
          simp [this]
      · have : ¬ TwP w v j k := fun h => hk1 h.1
        have t1 : decide ((1 : Int) < ((k + 1 : Nat) : Int)) = false := decide_eq_false (by omega)
        rw [t1]
        simp [this]
    have sw := wrt_short v j
    refine eb_cons (σ1 := nrE p w v j (foundD p w v j k) (.dat (.int ((k + 1 : Nat) : Int))) (.own (.lst ((waysI p w v j k).map .int)))) ?tw (eb_one (EvS.to (es_expr (es_append (sl_ 11) rfl (ev_min (bi (f_min m) bt_min) (nmL 13) ways_min.1 ways_min.2) rfl ?z)) ?e))
    case z =>
      unfold foundD
      rw [List.length_map, List.length_range]
      omega
    case e =>
      have e0 : foundD p w v j (k + 1) = foundD p w v j k ++ [.int (D p (ltr w) v (k + 1) (j + 1))] := by
        unfold foundD
        rw [List.range_succ, List.map_append]
        rfl
      unfold nrS
      rw [e0]
      rfl
    case tw =>
      by_cases t : TwP w v j k
      · have ew : waysI p w v j k = [D p (ltr w) v (k + 1) j + p.put, D p (ltr w) v k (j + 1) + p.leave, D p (ltr w) v k j + cost p (ltr w) v k j, D p (ltr w) v (k - 1) (j - 1) + p.turn] := by unfold waysI; rw [if_pos t]; rfl
        rw [ew]
        obtain ⟨hk1, hj1, _⟩ := id t
        obtain ⟨j', rfl⟩ : ∃ j', j = j' + 1 := ⟨j - 1, by omega⟩
        refine es_ifT ((EvW.t (ew_and (EvC.t (ec_gt (nm 12) ev_int)) fun h1 => ew_and (EvC.t (ec_gt (ev_lenS (bi (f_len m) bt_len) (nm 3) (by omega)) ev_int)) fun h2 => ew_and (EvC.t (ec_neX (ev_ixS (nm 1) ((ev_sub (nm 12) ev_int).to (congrArg PyData.int (i2 hk1))) (by omega) (nz _ (by omega))) (ev_ixS (nm 1) ((ev_sub (nm 12) ev_int).to (congrArg PyData.int i1)) (by omega) (nz _ hk))))
          fun h3 => ew_and1 (EvC.t (ec_eqX (ev_slS (nm 1) (ep_some (ev_sub (nm 12) ev_int)) (ep_some (nm 12)) (by omega)) (ev_revS (nm 3) (by omega)))))).to (tst.symm.trans (decide_eq_true t))) (eb_one (EvS.to (es_expr (es_append (sl_ 13) rfl (ev_add (ev_ixT (nm 9) ((ev_sub (nm 12) ev_int).to (congrArg PyData.int (i2 hk1))) (atI_nat (rowD_get (by omega)))) (nm 7)) rfl (by show 3 < sizeLine; omega))) rfl))
      · have ew : waysI p w v j k = [D p (ltr w) v (k + 1) j + p.put, D p (ltr w) v k (j + 1) + p.leave, D p (ltr w) v k j + cost p (ltr w) v k j] := by unfold waysI; rw [if_neg t]; rfl
        rw [ew]
        refine es_ifF ((EvW.t (ew_and (EvC.t (ec_gt (nm 12) ev_int)) fun h1 => ew_and (EvC.t (ec_gt (ev_lenS (bi (f_len m) bt_len) (nm 3) (by omega)) ev_int)) fun h2 => ew_and (EvC.t (ec_neX (ev_ixS (nm 1) ((ev_sub (nm 12) ev_int).to (congrArg PyData.int (i2 (by have := of_decide_eq_true h1; omega)))) (by omega) (nz _ (by omega))) (ev_ixS (nm 1) ((ev_sub (nm 12) ev_int).to (congrArg PyData.int i1)) (by omega) (nz _ hk))))
          fun h3 => ew_and1 (EvC.t (ec_eqX (ev_slS (nm 1) (ep_some (ev_sub (nm 12) ev_int)) (ep_some (nm 12)) (by omega)) (ev_revS (nm 3) (by omega)))))).to (tst.symm.trans (decide_eq_false t))) eb_nil
end
end TR

set_option Elab.async false
set_option linter.all false
set_option maxRecDepth 100000
set_option maxHeartbeats 4000000
namespace TR
open PySem PySem.Spec L2
/-- the names of two swapped stores -/
theorem sw2 {env : Env} {sc : Scope} {ts : List Expr} {k k2 : Nat} {pt pt2 : Pos} {vs : List Expr} {ns : List Str} (h : env.scope = sc) (e : ∀ env : Env, env.scope = sc → swappedStores [.Tuple ts k pt] (.Tuple vs k2 pt2) env = pure (some ns)) : swappedStores [.Tuple ts k pt] (.Tuple vs k2 pt2) env = pure (some ns) := e env h
section
variable {g : G}
theorem next_row_ok (m : M g) : FnM g 1 "next_row" ["prices", "word", "rows", "written"] sp_next_row := m_next_row m fun ws bs res h hl => by
  obtain ⟨p, w, v, j, sm, rfl, rfl, rfl⟩ := h
  have sz := sizeLine_eq
  have sw := wrt_short v j
  have hlen : (ranged 1 (((w.length : Int) + 1) - 1).toNat).length = w.length := by
    unfold ranged
    rw [List.length_map, List.length_range]
    omega
  refine fnD (eb_cons (es_tup (is := [4, 5, 6, 7]) (js := [4, 5, 6, 7]) (nm 0) (eg_cons (ss_ 4) (eg_cons (ss_ 5) (eg_cons (ss_ 6) (eg_cons (ss_ 7) eg_nil (by decide)) (by decide)) (by decide)) (by decide)) rfl)
    (eb_cons (es_tup (is := [8, 9]) (js := [8, 9]) (nm 2) (eg_cons (ss_ 8) (eg_cons (ss_ 9) eg_nil (by decide)) (by decide)) rfl)
    (eb_cons (es_parO (ss_ 10) (ss_ 11) (by decide) rfl rfl (ev_ixS (nm 3) (ev_neg ev_int) (by omega) (wrt_last v j)) (eo_lst (ds := foundD p w v j 0) (ea_cons ((ev_add (ev_ixT (nm 8) ev_int (atI_nat (n := 0) (rowD_get (by omega)))) (nm 4)).to ?c0) ea_nil) (by show 1 ≤ sizeLine; omega)) ?sw)
    (eb_cons (σ1 := nrS p w v j w.length) ?loop (eb_one (es_ret (ev_tupleL (bi (f_tuple m) bt_tuple) (nmL 11)))))))) rfl
  case c0 =>
    show PyData.int (D p (ltr w) v 0 j + p.put) = .int (D p (ltr w) v 0 (j + 1))
    rw [D_0j, D_0j]
    have e : p.put * ((j + 1 : Nat) : Int) = p.put * j + p.put := by rw [Int.natCast_add, Int.mul_add]; simp
    rw [e]
  case sw =>
    intro env he
    cases env
    dsimp only at he
    subst he
    kernel_rfl
  case loop =>
    show EvS _ _ (nrS p w v j 0) _
    refine EvS.to (es_for (s := nrS p w v j) (ei_range2 (lo := 1) (n := (w.length : Int) + 1) (bi (f_range m) bt_range) ev_int (ev_add (ev_lenS (bi (f_len m) bt_len) (nm 1) (by omega)) ev_int) (by omega)) (eg_name (js := [12]) (ss_ 12) (by decide)) (fun _ _ => trivial) (.all fun k d hd => .inl ?_)) (by rw [hlen])
    obtain ⟨rfl, hk⟩ := ranged_get hd
    have ek : (1 + (k : Int)) = ((k + 1 : Nat) : Int) := by omega
    rw [ek]
    exact next_step m sm (by omega) (b0 := ww p w v j k) rfl
/-! ### word_distance -/
def wdS (p : Pr) (w o : Str) (b : W) (k : Nat) : S := ⟨[.dat (prD p), .dat (.str w), .dat (.str o), .dat (.tuple (rowD p w (ltr o) k)), .dat (befT p w (ltr o) k), b], []⟩
def wdB (k : Nat) : W := match k with
  | 0 => .un
  | k + 1 => .dat (.int ((k : Nat) : Int))
def sp_word_distance : FSpec := fun ws bs res => ∃ p w o, w.length ≤ 1000 ∧ o.length ≤ 1000 ∧ ws = [.dat (prD p), .dat (.str w), .dat (.str o)] ∧ bs = [] ∧ res = .d (.int (D p (ltr w) (ltr o) w.length o.length)) []
theorem word_distance_ok (m : M g) : FnM g 2 "word_distance" ["prices", "one", "other"] sp_word_distance := m_word_distance m fun ws bs res h hl => by
  obtain ⟨p, w, o, sm, so, rfl, rfl, rfl⟩ := h
  have sz := sizeLine_eq
  have hlen : (ranged 0 ((o.length : Int)).toNat).length = o.length := by
    unfold ranged
    rw [List.length_map, List.length_range]
    omega
  refine fnD (eb_cons (EvS.to (o' := .nx (wdS p w o .un 0)) (es_par (d1 := .tuple (rowD p w (ltr o) 0)) (ss_ 3) (ss_ 4) (by decide) rfl rfl (ea_cons ((ev_call (first_row_ok m).f (ea_cons (nm 0) (ea_cons (nm 1) ea_nil)) ⟨p, w, sm, rfl, rfl, rfl⟩).to ?c0) (ea_cons ev_non ea_nil)) ?sw) ?e0)
    (eb_cons (σ1 := wdS p w o (wdB o.length) o.length) ?loop (eb_one (es_ret (ev_ixT (nm 3) (ev_neg ev_int) (atI_last ?la)))))) rfl
  case c0 => exact (show PyData.tuple ((List.range (w.length + 1)).map fun (i : Nat) => PyData.int (p.leave * (i : Int))) = .tuple (rowD p w (ltr o) 0) from congrArg PyData.tuple (List.map_congr_left fun i _ => by rw [D_i0]))
  case e0 => rfl
  case sw =>
    intro env he
    cases env
    dsimp only at he
    subst he
    kernel_rfl
  case la =>
    unfold rowD
    rw [List.range_succ, List.map_append]
    simp
  case loop =>
    show EvS _ _ (wdS p w o (wdB 0) 0) _
    refine EvS.to (es_for (s := fun k => wdS p w o (wdB k) k) (ei_range1 (n := (o.length : Int)) (bi (f_range m) bt_range) (ev_lenS (bi (f_len m) bt_len) (nm 2) (by omega)) (by omega) (by omega)) (eg_name (js := [5]) (ss_ 5) (by decide)) (fun _ _ => trivial) (.all fun k d hd => .inl ?_)) (by rw [hlen])
    obtain ⟨rfl, hk⟩ := ranged_get hd
    have hk' : k < o.length := by omega
    have ek : (0 + (k : Int)) = ((k : Nat) : Int) := by omega
    rw [ek]
    show EvB _ _ (wdS p w o (.dat (.int ((k : Nat) : Int))) k) _
    have cut : cutS o (some (if ((k : Nat) : Int) - 1 > 0 then ((k : Nat) : Int) - 1 else 0)) (some (((k : Nat) : Int) + 1)) = wrt (ltr o) k := by
      cases k with
      | zero => exact cut_one (by omega)
      | succ k =>
        have e2 : (((k + 1 : Nat) : Int) + 1) = ((k + 2 : Nat) : Int) := by omega
        rw [e2]
        have e1 : (if ((k + 1 : Nat) : Int) - 1 > 0 then ((k + 1 : Nat) : Int) - 1 else 0) = ((k : Nat) : Int) := by split <;> omega
        rw [e1]
        exact cut_two (by omega)
    refine eb_one (EvS.to (es_par (ss_ 3) (ss_ 4) (by decide) rfl rfl (ea_cons (ev_call (next_row_ok m).f (ea_cons (nm 0) (ea_cons (nm 1) (ea_cons (ev_tup (ea_cons (nm 3) (ea_cons (nm 4) ea_nil)) (by show 2 ≤ sizeLine; omega)) (ea_cons ((ev_slS (nm 2) (ep_some (ev_max2 (bi (f_max m) bt_max) ev_int (ev_sub (nm 5) ev_int))) (ep_some (ev_add (nm 5) ev_int)) (by omega)).to (congrArg PyData.str cut)) ea_nil)))) ⟨p, w, ltr o, k, sm, rfl, rfl, rfl⟩) (ea_cons (nm 3) ea_nil)) ?sw2) ?e1)
    case e1 => rfl
    case sw2 =>
      intro env he
      cases env
      dsimp only at he
      subst he
      kernel_rfl
/-! ### distance -/
def sp_distance (g : G) : FSpec := fun ws bs res => ∃ P a b, small2 P ∧ small a ∧ small b ∧ ws = [.dat P, .dat a, .dat b] ∧ bs = [] ∧
  ((arePrices P = false ∧ dep 1 P ∧ res = .x (He.ga g.K "InvalidPrices") P []) ∨ (arePrices P = true ∧ isWord 12 a = false ∧ dep 1 a ∧ res = .x (He.ga g.K "InvalidWord") a []) ∨
    (arePrices P = true ∧ isWord 12 a = true ∧ isWord 12 b = false ∧ dep 1 b ∧ res = .x (He.ga g.K "InvalidWord") b []) ∨
    ∃ p w o, P = prD p ∧ a = .str w ∧ b = .str o ∧ arePrices P = true ∧ isWord 12 a = true ∧ isWord 12 b = true ∧ res = .d (.int (D p (ltr w) (ltr o) w.length o.length)) [])
theorem distance_ok (m : M g) (hP : g.P = prog36) : FnM g 5 "distance" ["prices", "one", "other"] (sp_distance g) := m_distance m fun ws bs res h hl => by
  obtain ⟨P, a, b, s1, s2, s3, rfl, rfl, ⟨h1, h2, rfl⟩ | ⟨h1, h2, h3, rfl⟩ | ⟨h1, h2, h3, h4, rfl⟩ | ⟨p, w, o, rfl, rfl, rfl, h1, h2, h3, rfl⟩⟩ := h
  · exact fnX (ex_here (ex_expr (evx_call (need_prices_ok m hP).f (ea_cons (nm 0) ea_nil) ⟨P, s1, rfl, rfl, .inr ⟨h1, h2, rfl⟩⟩))) rfl
  · exact fnX (ex_cons (es_expr (ev_call (need_prices_ok m hP).f (ea_cons (nm 0) ea_nil) ⟨P, s1, rfl, rfl, .inl ⟨h1, rfl⟩⟩)) (ex_here (ex_expr (evx_call (need_word_ok m hP).f (ea_cons (gi (c_MOST_LETTERS m)) (ea_cons (nm 1) ea_nil)) ⟨12, a, s2, rfl, rfl, .inr ⟨h2, h3, rfl⟩⟩)))) rfl
  · exact fnX (ex_cons (es_expr (ev_call (need_prices_ok m hP).f (ea_cons (nm 0) ea_nil) ⟨P, s1, rfl, rfl, .inl ⟨h1, rfl⟩⟩)) (ex_cons (es_expr (ev_call (need_word_ok m hP).f (ea_cons (gi (c_MOST_LETTERS m)) (ea_cons (nm 1) ea_nil)) ⟨12, a, s2, rfl, rfl, .inl ⟨h2, rfl⟩⟩)) (ex_here (ex_expr (evx_call (need_word_ok m hP).f (ea_cons (gi (c_MOST_LETTERS m)) (ea_cons (nm 2) ea_nil)) ⟨12, b, s3, rfl, rfl, .inr ⟨h3, h4, rfl⟩⟩))))) rfl
  · exact fnD (eb_cons (es_expr (ev_call (need_prices_ok m hP).f (ea_cons (nm 0) ea_nil) ⟨_, s1, rfl, rfl, .inl ⟨h1, rfl⟩⟩)) (eb_cons (es_expr (ev_call (need_word_ok m hP).f (ea_cons (gi (c_MOST_LETTERS m)) (ea_cons (nm 1) ea_nil)) ⟨12, _, s2, rfl, rfl, .inl ⟨h2, rfl⟩⟩)) (eb_cons (es_expr (ev_call (need_word_ok m hP).f (ea_cons (gi (c_MOST_LETTERS m)) (ea_cons (nm 2) ea_nil)) ⟨12, _, s3, rfl, rfl, .inl ⟨h3, rfl⟩⟩))
      (eb_one (es_ret (ev_call (word_distance_ok m).f (ea_cons (nm 0) (ea_cons (nm 1) (ea_cons (nm 2) ea_nil))) ⟨p, w, o, s2, s3, rfl, rfl, rfl⟩)))))) rfl
end
end TR

set_option Elab.async false
set_option linter.all false
set_option maxRecDepth 100000
set_option maxHeartbeats 4000000
namespace TR
open PySem PySem.Spec L2
/-! ### lists of intD -/
abbrev intD (ns : List Int) : List PyData := ns.map .int
theorem canLay_ints : ∀ ns : List Int, PyData.canLayAll0 (intD ns) = true
  | [] => by unfold PyData.canLayAll0; rfl
  | n :: ns => by
    show PyData.canLayAll0 (.int n :: intD ns) = true
    rw [PyData.canLayAll0, canLay_ints ns]
    rfl
theorem shaped_ints (ns : List Int) : SeqAt.shaped (.list (intD ns)) = true := by
  have h1 : PyData.canLay0 (.list (intD ns)) = true := canLay_ints ns
  have h2 : PyData.depth (.list (intD ns)) = 1 := by
    rw [PyData.depth, PySem.W.ke_depthAll]
  unfold SeqAt.shaped
  rw [h1, h2]
  decide
theorem eqv_nil (ns : List Int) : PyData.eqv (.list (intD ns)) (.list []) = decide (ns = []) := by
  cases ns with
  | nil => rfl
  | cons n ns => rfl
/-! ### _law_take -/
def takeV (ns : List Int) (lim : Int) : Int := match ns.getLast? with
  | none => 0
  | some x => x % lim
theorem takeV_range {ns : List Int} {lim : Int} (h : 0 < lim) : 0 ≤ takeV ns lim ∧ takeV ns lim < lim := by
  unfold takeV
  cases ns.getLast? with
  | none => exact ⟨Int.le_refl _, h⟩
  | some x => exact ⟨Int.emod_nonneg _ (by omega), Int.emod_lt_of_pos _ h⟩
def sp_take : FSpec := fun ws bs res => ∃ ns lim, 0 < lim ∧ ws = [.bor 0, .dat (.int lim)] ∧ bs = [.lst (intD ns)] ∧ res = .d (.int (takeV ns lim)) [.lst (intD ns.dropLast)]
section
variable {g : G}
theorem take_ok (m : M g) : FnM g 1 "_law_take" ["pool", "limit"] sp_take := m__law_take m fun ws bs res h hl => by
  obtain ⟨ns, lim, h0, rfl, rfl, rfl⟩ := h
  cases e : ns.getLast? with
  | none =>
    have en : ns = [] := List.getLast?_eq_none_iff.mp e
    subst en
    exact fnD (eb_end (es_ifT ((EvC.t (ec_eqN (ds := intD []) (sl_ 0) rfl (EvO.lst (eo_lst ea_nil (by decide))) rfl (shaped_ints []) (shaped_ints []))).to rfl) (eb_one (es_ret ev_int))) trivial) rfl
  | some x =>
    have hne : ns ≠ [] := fun z => by rw [z] at e; cases e
    have hl' : (intD ns)[(intD ns).length - 1]? = some (.int x) := by
      rw [List.getLast?_eq_getElem?] at e
      rw [List.length_map, List.getElem?_map, e]
      rfl
    have ev : takeV ns lim = x % lim := by unfold takeV; rw [e]
    have ed : (intD ns).dropLast = intD ns.dropLast := (List.map_dropLast).symm
    rw [ev, ← ed]
    exact fnD (eb_cons (es_ifF ((EvC.t (ec_eqN (ds := intD ns) (sl_ 0) rfl (EvO.lst (eo_lst ea_nil (by decide))) rfl (shaped_ints ns) (shaped_ints []))).to (by rw [eqv_nil]; exact decide_eq_false hne)) eb_nil) (eb_one (es_ret (ev_mod (ev_intI (bi (f_int m) bt_int) (ev_pop (sl_ 0) rfl hl')) (nm 1) h0)))) rfl
end
end TR
namespace TR
open PySem PySem.Spec L2
/-! ### taking -/
theorem ev_take {q : Q} {x : Str} {i : Nat} {ns : List Int} {lim : Int} {e : Expr} {σ : S} {p p2 pos : Pos} (h : Fn q "_law_take" ["pool", "limit"] sp_take) (hx : Sl q x i) (hc : σ.cellAt i = some (.lst (intD ns))) (he : EvD q e σ (.int lim) σ) (h0 : 0 < lim)
    (hs : ∀ env, starEach [.Name x p2, e] env = (false, eval (.Name x p2) env) :: starEach [e] env := by intro _; rfl) (hs2 : ∀ env, starEach [e] env = (false, eval e env) :: starEach [] env := by intro _; rfl) (hpl : ∀ env, (backTo pos (starEach [e] env)).any (·.1) = false := by intro _; rfl) :
    EvD q (.Call (.Name "_law_take" p) [.Name x p2, e] [] pos) σ (.int (takeV ns lim)) (σ.put i (.lst (intD ns.dropLast))) :=
  ev_callB h hc (er_bor hx (er_dat he er_nil hs2) hs) hc ⟨ns, lim, h0, rfl, rfl, rfl⟩ rfl hs hpl
/-- the last k dropped -/
def dl : Nat → List Int → List Int
  | 0, ns => ns
  | k + 1, ns => (dl k ns).dropLast
def strL (cs : List Nat) : Str := ⟨cs.toArray⟩
theorem ltr_strL {cs : List Nat} {k : Nat} (h : k < cs.length) : cs[k]? = some (ltr (strL cs) k) := ltr_get (w := strL cs) (by simpa [strL, Str.length] using h)
theorem strL_len (cs : List Nat) : (strL cs).length = cs.length := by simp [strL, Str.length]
theorem join_sing : ∀ cs : List Nat, Str.join "" (cs.map fun c => (⟨#[c]⟩ : Str)) = strL cs
  | [] => rfl
  | [c] => rfl
  | c :: d :: r => by
    show (⟨#[c]⟩ : Str) ++ "" ++ Str.join "" ((d :: r).map fun c => (⟨#[c]⟩ : Str)) = _
    rw [join_sing (d :: r)]
    show (⟨(#[c] ++ (("" : Str)).cps) ++ (strL (d :: r)).cps⟩ : Str) = ⟨(c :: d :: r).toArray⟩
    congr 1
    apply Array.ext'
    have e : (("" : Str)).cps = #[] := by decide +kernel
    rw [e]
    simp [strL]
theorem EvO.to {q : Q} {e : Expr} {σ σ1 σ2 : S} {ds ds' : List PyData} (h : EvO q e σ ds σ1) (h1 : ds = ds') (h2 : σ1 = σ2) : EvO q e σ ds' σ2 := h1 ▸ h2 ▸ h
/-! ### _law_text -/
def textOf (ns : List Int) : List Nat × List Int :=
  ((List.range (takeV ns 13).toNat).map fun k => ltr alph (takeV (dl k ns.dropLast) 3).toNat, dl (takeV ns 13).toNat ns.dropLast)
def sp_text : FSpec := fun ws bs res => ∃ ns, ws = [.bor 0, .dat (.int 3), .dat (.int 12)] ∧ bs = [.lst (intD ns)] ∧ res = .d (.str (strL (textOf ns).1)) [.lst (intD (textOf ns).2)]
theorem take_lt {ns : List Int} {lim : Int} {n : Nat} (h : lim = (n : Int)) (h0 : 0 < n) : takeV ns lim = ((takeV ns lim).toNat : Int) ∧ (takeV ns lim).toNat < n := by
  obtain ⟨a, b⟩ := takeV_range (ns := ns) (lim := lim) (by omega)
  omega
section
variable {g : G}
theorem text_ok (m : M g) : FnM g 2 "_law_text" ["pool", "n", "most"] sp_text := m__law_text m fun ws bs res h hl => by
  obtain ⟨ns, rfl, rfl, rfl⟩ := h
  have sz := sizeLine_eq
  obtain ⟨t1, t2⟩ := take_lt (ns := ns) (lim := 13) (n := 13) rfl (by decide)
  have hlen : (ranged 0 (takeV ns 13).toNat).length = (takeV ns 13).toNat := by simp [ranged]
  refine fnD (eb_one (es_ret ((ev_join (y := "") (ys := (List.range (takeV ns 13).toNat).map fun k => (⟨#[ltr alph (takeV (dl k ns.dropLast) 3).toNat]⟩ : Str)) ev_str (EvO.lst ?lc) ?sum).to ?res))) rfl (σ' := ⟨[.bor 0, .dat (.int 3), .dat (.int 12), .un], [.lst (intD (dl (takeV ns 13).toNat ns.dropLast))]⟩)
  case lc =>
    have e : ((List.range (takeV ns 13).toNat).map fun k => (⟨#[ltr alph (takeV (dl k ns.dropLast) 3).toNat]⟩ : Str)).map PyData.str = (List.range (ranged 0 (takeV ns 13).toNat).length).map fun k => PyData.str ⟨#[ltr alph (takeV (dl k ns.dropLast) 3).toNat]⟩ := by
      rw [List.map_map, hlen]
      rfl
    rw [e]
    refine EvO.to (eo_gen 3 (s := fun k => ⟨[.bor 0, .dat (.int 3), .dat (.int 12), .un], [.lst (intD (dl k ns.dropLast))]⟩) (ei_range1 (n := takeV ns 13) (bi (f_range m) bt_range) (ev_take (take_ok m).f (sl_ 0) rfl (lim := 12 + 1) (ev_add (nm 2) ev_int) (by decide)) (by omega) (by omega)) (fun _ => rfl) ?pl (by rw [hlen]; omega) (fun k d hd => ?_) (BlkOk.of ?_) (ss_ 3)) rfl ?e2
    case e2 => rw [hlen]
    · rintro k w ⟨⟩
      exact ⟨rfl, trivial⟩
    · obtain ⟨c1, c2⟩ := take_lt (ns := dl k ns.dropLast) (lim := 3) (n := 3) rfl (by decide)
      refine ⟨_, ev_ixS ev_str (ev_take (take_ok m).f (sl_ 0) rfl (nm 1) (by decide)) (by decide +kernel) ?_, rfl⟩
      rw [c1]
      exact atI_nat (ltr_get (by
        have e12 : alph.length = 12 := by decide +kernel
        rw [e12]
        exact Nat.lt_trans c2 (by decide)))
    · rfl
  case sum =>
    have h1 : ∀ l : List Nat, ((l.map fun k => (⟨#[ltr alph (takeV (dl k ns.dropLast) 3).toNat]⟩ : Str)).map (·.length)).sum = l.length := by
      intro l
      induction l with
      | nil => rfl
      | cons a l ih =>
        simp only [List.map_cons, List.sum_cons, ih, List.length_cons]
        show 1 + _ = _
        omega
    rw [h1]
    have : (("" : Str)).length = 0 := by decide +kernel
    rw [this]
    simp
    omega
  case res =>
    rw [show Txt.join "" ((List.range (takeV ns 13).toNat).map fun k => (⟨#[ltr alph (takeV (dl k ns.dropLast) 3).toNat]⟩ : Str)) = Str.join "" _ from TL.join_eq _ _]
    have e : ((List.range (takeV ns 13).toNat).map fun k => (⟨#[ltr alph (takeV (dl k ns.dropLast) 3).toNat]⟩ : Str)) = ((textOf ns).1).map fun c => (⟨#[c]⟩ : Str) := by
      unfold textOf
      rw [List.map_map]
      rfl
    rw [e, join_sing]
end
end TR

set_option Elab.async false
set_option linter.all false
set_option maxRecDepth 100000
set_option maxHeartbeats 4000000
namespace TR
open PySem PySem.Spec L2
/-! ### _law_prices -/
def pr5 (ns : List Int) (a b : Int) : Pr := ⟨2 + takeV (dl 0 ns) a, 1 + takeV (dl 1 ns) b, 1 + takeV (dl 2 ns) b, 1 + takeV (dl 3 ns) b⟩
def pricesOf (ns : List Int) : Pr × List Int :=
  if takeV ns 3 = 0 then (⟨2, 2, 3, 1⟩, dl 1 ns) else if takeV ns 3 = 1 then (pr5 (dl 1 ns) 4 5, dl 4 (dl 1 ns)) else (pr5 (dl 1 ns) 900 1000, dl 4 (dl 1 ns))
def sp_prices : FSpec := fun ws bs res => ∃ ns, ws = [.bor 0] ∧ bs = [.lst (intD ns)] ∧ res = .d (prD (pricesOf ns).1) [.lst (intD (pricesOf ns).2)]
structure Pr.Ok (p : Pr) : Prop where
  put : 1 ≤ p.put ∧ p.put ≤ 1000
  leave : 1 ≤ p.leave ∧ p.leave ≤ 1000
  change : 1 ≤ p.change ∧ p.change ≤ 1000
  turn : 1 ≤ p.turn ∧ p.turn ≤ 1000
theorem Pr.Ok.pos {p : Pr} (h : p.Ok) : p.Pos := ⟨h.put.1, h.leave.1, h.change.1, h.turn.1⟩
theorem Pr.Ok.swap {p : Pr} (h : p.Ok) : p.swap.Ok := ⟨h.leave, h.put, h.change, h.turn⟩
theorem Pr.Ok.are {p : Pr} (h : p.Ok) : arePrices (prD p) = true := by
  show (decide (4 = 4) && [PyData.int p.put, .int p.leave, .int p.change, .int p.turn].all (isBtw 1 1000)) = true
  have f : ∀ i : Int, 1 ≤ i ∧ i ≤ 1000 → isBtw 1 1000 (.int i) = true := fun i ⟨a, b⟩ => by
    show (decide (1 ≤ i) && decide (i ≤ 1000)) = true
    rw [decide_eq_true a, decide_eq_true b]
    rfl
  simp only [List.all_cons, List.all_nil, f _ h.put, f _ h.leave, f _ h.change, f _ h.turn]
  rfl
theorem pr5_ok {ns : List Int} {a b : Int} (ha : 1 ≤ a) (ha2 : a ≤ 900) (hb : 1 ≤ b) (hb2 : b ≤ 1000) : (pr5 ns a b).Ok := by
  have f0 := takeV_range (ns := dl 0 ns) (lim := a) (by omega)
  have f1 := takeV_range (ns := dl 1 ns) (lim := b) (by omega)
  have f2 := takeV_range (ns := dl 2 ns) (lim := b) (by omega)
  have f3 := takeV_range (ns := dl 3 ns) (lim := b) (by omega)
  unfold pr5
  exact ⟨by dsimp only; omega, by dsimp only; omega, by dsimp only; omega, by dsimp only; omega⟩
theorem pricesOf_ok (ns : List Int) : (pricesOf ns).1.Ok := by
  unfold pricesOf
  split
  · exact ⟨by dsimp only; omega, by dsimp only; omega, by dsimp only; omega, by dsimp only; omega⟩
  · split
    · exact pr5_ok (by decide) (by decide) (by decide) (by decide)
    · exact pr5_ok (by decide) (by decide) (by decide) (by decide)
section
variable {g : G}
theorem prices_ok (m : M g) : FnM g 2 "_law_prices" ["pool"] sp_prices := m__law_prices m fun ws bs res h hl => by
  obtain ⟨ns, rfl, rfl, rfl⟩ := h
  have sz := sizeLine_eq
  obtain ⟨t1, t2⟩ := takeV_range (ns := ns) (lim := 3) (by decide)
  unfold pricesOf
  by_cases k0 : takeV ns 3 = 0
  · rw [if_pos k0]
    exact fnD (eb_cons (es_set (ss_ 1) (ev_take (take_ok m).f (sl_ 0) rfl ev_int (by decide))) (eb_end (es_ifT ((EvC.t (ec_eqI (nm 1) ev_int)).to (decide_eq_true k0)) (eb_one (es_ret (ev_tup (ea_cons ev_int (ea_cons ev_int (ea_cons ev_int (ea_cons ev_int ea_nil)))) (by show 4 ≤ sizeLine; omega))))) trivial)) rfl
  · rw [if_neg k0]
    by_cases k1 : takeV ns 3 = 1
    · rw [if_pos k1]
      exact fnD (eb_cons (es_set (ss_ 1) (ev_take (take_ok m).f (sl_ 0) rfl ev_int (by decide))) (eb_cons (es_ifF ((EvC.t (ec_eqI (nm 1) ev_int)).to (decide_eq_false k0)) eb_nil) (eb_end (es_ifT ((EvC.t (ec_eqI (nm 1) ev_int)).to (decide_eq_true k1)) (eb_one (es_ret (ev_tup (ea_cons (ev_add ev_int (ev_take (ns := dl 0 (dl 1 ns)) (take_ok m).f (sl_ 0) rfl ev_int (by decide))) (ea_cons (ev_add ev_int (ev_take (ns := dl 1 (dl 1 ns)) (take_ok m).f (sl_ 0) rfl ev_int (by decide))) (ea_cons (ev_add ev_int (ev_take (ns := dl 2 (dl 1 ns)) (take_ok m).f (sl_ 0) rfl ev_int (by decide))) (ea_cons (ev_add ev_int (ev_take (ns := dl 3 (dl 1 ns)) (take_ok m).f (sl_ 0) rfl ev_int (by decide))) ea_nil)))) (by show 4 ≤ sizeLine; omega))))) trivial))) rfl
    · rw [if_neg k1]
      exact fnD (eb_cons (es_set (ss_ 1) (ev_take (take_ok m).f (sl_ 0) rfl ev_int (by decide))) (eb_cons (es_ifF ((EvC.t (ec_eqI (nm 1) ev_int)).to (decide_eq_false k0)) eb_nil) (eb_cons (es_ifF ((EvC.t (ec_eqI (nm 1) ev_int)).to (decide_eq_false k1)) eb_nil) (eb_one (es_ret (ev_tup (ea_cons (ev_add ev_int (ev_take (ns := dl 0 (dl 1 ns)) (take_ok m).f (sl_ 0) rfl ev_int (by decide))) (ea_cons (ev_add ev_int (ev_take (ns := dl 1 (dl 1 ns)) (take_ok m).f (sl_ 0) rfl ev_int (by decide))) (ea_cons (ev_add ev_int (ev_take (ns := dl 2 (dl 1 ns)) (take_ok m).f (sl_ 0) rfl ev_int (by decide))) (ea_cons (ev_add ev_int (ev_take (ns := dl 3 (dl 1 ns)) (take_ok m).f (sl_ 0) rfl ev_int (by decide))) ea_nil)))) (by show 4 ≤ sizeLine; omega))))))) rfl
end
end TR

set_option Elab.async false
set_option linter.all false
set_option maxRecDepth 100000
set_option maxHeartbeats 4000000
namespace TR
open PySem PySem.Spec L2
/-! ### while, turn by turn -/
inductive Wh (q : Q) (c : Expr) (body : List Stmt) : S → S → Prop
  | stop {σ σ' : S} (h : EvT q c σ false σ') : Wh q c body σ σ'
  | go {σ σ1 σ2 σ' : S} (h : EvT q c σ true σ1) (hb : Step q body σ1 σ2) (hr : Wh q c body σ2 σ') : Wh q c body σ σ'
theorem Wh.seq {q : Q} {c : Expr} {body : List Stmt} {σ σ' : S} (h : Wh q c body σ σ') : ∃ (m : Nat) (s t : Nat → S), s 0 = σ ∧ t m = σ' ∧ (∀ k, k < m → EvT q c (s k) true (t k) ∧ Step q body (t k) (s (k + 1))) ∧ EvT q c (s m) false (t m) := by
  induction h with
  | @stop σ σ' h => exact ⟨0, fun _ => σ, fun _ => σ', rfl, rfl, fun k hk => absurd hk (Nat.not_lt_zero _), h⟩
  | @go σ σ1 σ2 σ' h hb _ ih =>
    obtain ⟨m, s, t, h0, hm, hs, he⟩ := ih
    refine ⟨m + 1, fun k => match k with | 0 => σ | k + 1 => s k, fun k => match k with | 0 => σ1 | k + 1 => t k, rfl, hm, fun k hk => ?_, he⟩
    cases k with
    | zero => exact ⟨h, by show Step q body σ1 (s 0); rw [h0]; exact hb⟩
    | succ k => exact hs k (by omega)
theorem es_wh {q : Q} {c : Expr} {body : List Stmt} {σ σ' : S} {pos : Pos} (h : Wh q c body σ σ') (hd : q.d = true := by rfl) : EvS q (.While c body [] pos) σ (.nx σ') := by
  obtain ⟨m, s, t, h0, hm, hs, he⟩ := h.seq
  subst h0 hm
  exact es_while m s t rfl hs he hd
/-! ### _law_made -/
structure MS where
  ns : List Int
  cost : Int
  fo : List Nat
  at_ : Nat
abbrev abc : Str := "abc"
def stepM (p : Pr) (w : Str) (s : MS) : MS :=
  if takeV s.ns 9 = 0 then ⟨s.ns.dropLast, s.cost + p.leave, s.fo, s.at_ + 1⟩
  else if takeV s.ns 9 = 1 then ⟨s.ns.dropLast.dropLast, s.cost + p.change, s.fo ++ [ltr abc (takeV s.ns.dropLast 3).toNat], s.at_ + 1⟩
  else if takeV s.ns 9 = 2 then ⟨s.ns.dropLast.dropLast, s.cost + p.put, s.fo ++ [ltr abc (takeV s.ns.dropLast 3).toNat, ltr w s.at_], s.at_ + 1⟩
  else if takeV s.ns 9 = 3 ∧ s.at_ + 1 < w.length ∧ ltr w s.at_ ≠ ltr w (s.at_ + 1) then ⟨s.ns.dropLast, s.cost + p.turn, s.fo ++ [ltr w (s.at_ + 1), ltr w s.at_], s.at_ + 2⟩
  else ⟨s.ns.dropLast, s.cost, s.fo ++ [ltr w s.at_], s.at_ + 1⟩
def runM (p : Pr) (w : Str) : Nat → MS → MS
  | 0, s => s
  | f + 1, s => if s.at_ < w.length then runM p w f (stepM p w s) else s
def madeOf (p : Pr) (w : Str) (ns : List Int) : MS := runM p w w.length ⟨ns, 0, [], 0⟩
def mS (p : Pr) (w : Str) (s : MS) (k : W) : S :=
  ⟨[.bor 0, .dat (prD p), .dat (.str w), .dat (.int p.put), .dat (.int p.leave), .dat (.int p.change), .dat (.int p.turn), .dat (.int s.cost), .dat (.str (strL s.fo)), .dat (.int s.at_), k], [.lst (intD s.ns)]⟩
theorem strL_app {a b : List Nat} : strL a ++ strL b = strL (a ++ b) := by
  show (⟨a.toArray ++ b.toArray⟩ : Str) = ⟨(a ++ b).toArray⟩
  congr 1
  simp
theorem app1 {a : List Nat} {c : Nat} : strL a ++ ⟨#[c]⟩ = strL (a ++ [c]) := strL_app (b := [c])
theorem stepM_at {p : Pr} {w : Str} {s : MS} : s.at_ + 1 ≤ (stepM p w s).at_ ∧ (stepM p w s).at_ ≤ s.at_ + 2 ∧ (stepM p w s).fo.length ≤ s.fo.length + 2 * ((stepM p w s).at_ - s.at_) := by
  unfold stepM
  split
  · dsimp only; omega
  split
  · dsimp only; simp only [List.length_append, List.length_cons, List.length_nil]; omega
  split
  · dsimp only; simp only [List.length_append, List.length_cons, List.length_nil]; omega
  split
  · dsimp only; simp only [List.length_append, List.length_cons, List.length_nil]; omega
  · dsimp only; simp only [List.length_append, List.length_cons, List.length_nil]; omega
section
variable {g : G}
theorem made_turn (m : M g) {p : Pr} {w : Str} {s : MS} {k : W} (sm : w.length ≤ 1000) (hf : s.fo.length ≤ 4000) (hat : s.at_ < w.length) {body els : List Stmt} {c : Expr} {pos : Pos} (hb : (defBody s__law_made)[4]? = some (.While c body els pos)) :
    ∃ k', EvB (q__law_made g 1) body (mS p w s k) (.nx (mS p w (stepM p w s) k')) := by
  cases hb
  have sz := sizeLine_eq
  obtain ⟨t1, t2⟩ := takeV_range (ns := s.ns) (lim := 9) (by decide)
  obtain ⟨c1, c2⟩ := take_lt (ns := s.ns.dropLast) (lim := 3) (n := 3) rfl (by decide)
  have e3 : abc.length = 3 := by decide +kernel
  have hx : atI abc.cps.toList (takeV s.ns.dropLast 3) = some (ltr abc (takeV s.ns.dropLast 3).toNat) := by
    rw [c1]
    exact atI_nat (ltr_get (by rw [e3]; exact c2))
  have hw : atI w.cps.toList ((s.at_ : Nat) : Int) = some (ltr w s.at_) := atI_nat (ltr_get hat)
  have l1 : (strL s.fo).length = s.fo.length := strL_len _
  have ea : ((s.at_ : Nat) : Int) + 1 = ((s.at_ + 1 : Nat) : Int) := by omega
  refine ⟨.dat (.int (takeV s.ns 9)), eb_cons (es_set (ss_ 10) (ev_take (take_ok m).f (sl_ 0) rfl ev_int (by decide))) ?_⟩
  by_cases k0 : takeV s.ns 9 = 0
  · have e : stepM p w s = ⟨s.ns.dropLast, s.cost + p.leave, s.fo, s.at_ + 1⟩ := by unfold stepM; rw [if_pos k0]
    rw [e]
    exact eb_cons (es_ifT ((EvC.t (ec_eqI (nm 10) ev_int)).to (decide_eq_true k0)) (eb_one (es_set (ss_ 7) (ev_add (nm 7) (nm 4))))) (eb_one (EvS.to (es_set (ss_ 9) ((ev_add (nm 9) ev_int).to (congrArg PyData.int ea))) rfl))
  by_cases k1 : takeV s.ns 9 = 1
  · have e : stepM p w s = ⟨s.ns.dropLast.dropLast, s.cost + p.change, s.fo ++ [ltr abc (takeV s.ns.dropLast 3).toNat], s.at_ + 1⟩ := by unfold stepM; rw [if_neg k0, if_pos k1]
    rw [e]
    exact eb_cons (es_ifF ((EvC.t (ec_eqI (nm 10) ev_int)).to (decide_eq_false k0)) (eb_one (es_ifT ((EvC.t (ec_eqI (nm 10) ev_int)).to (decide_eq_true k1)) (eb_one (es_par (d1 := .str (strL (s.fo ++ [ltr abc (takeV s.ns.dropLast 3).toNat]))) (ss_ 8) (ss_ 7) (by decide) rfl rfl (ea_cons ((ev_addS (nm 8) (ev_ixS ev_str (ev_take (take_ok m).f (sl_ 0) rfl ev_int (by decide)) (by rw [e3]; omega) hx) (by rw [l1]; show s.fo.length + 1 ≤ sizeLine; omega)).to (congrArg PyData.str app1)) (ea_cons (ev_add (nm 7) (nm 5)) ea_nil)) (by
      intro env he
      cases env
      dsimp only at he
      subst he
      kernel_rfl)))))) (eb_one (EvS.to (es_set (ss_ 9) ((ev_add (nm 9) ev_int).to (congrArg PyData.int ea))) rfl))
  by_cases k2 : takeV s.ns 9 = 2
  · have e : stepM p w s = ⟨s.ns.dropLast.dropLast, s.cost + p.put, s.fo ++ [ltr abc (takeV s.ns.dropLast 3).toNat, ltr w s.at_], s.at_ + 1⟩ := by unfold stepM; rw [if_neg k0, if_neg k1, if_pos k2]
    rw [e]
    have l2 : (strL (s.fo ++ [ltr abc (takeV s.ns.dropLast 3).toNat])).length = s.fo.length + 1 := by rw [strL_len]; simp
    have e4 : (s.fo ++ [ltr abc (takeV s.ns.dropLast 3).toNat]) ++ [ltr w s.at_] = s.fo ++ [ltr abc (takeV s.ns.dropLast 3).toNat, ltr w s.at_] := by simp
    exact eb_cons (es_ifF ((EvC.t (ec_eqI (nm 10) ev_int)).to (decide_eq_false k0)) (eb_one (es_ifF ((EvC.t (ec_eqI (nm 10) ev_int)).to (decide_eq_false k1)) (eb_one (es_ifT ((EvC.t (ec_eqI (nm 10) ev_int)).to (decide_eq_true k2)) (eb_one (es_par (d1 := .str (strL (s.fo ++ [ltr abc (takeV s.ns.dropLast 3).toNat, ltr w s.at_]))) (ss_ 8) (ss_ 7) (by decide) rfl rfl
      (ea_cons ((ev_addS ((ev_addS (nm 8) (ev_ixS ev_str (ev_take (take_ok m).f (sl_ 0) rfl ev_int (by decide)) (by rw [e3]; omega) hx) (by rw [l1]; show s.fo.length + 1 ≤ sizeLine; omega)).to (congrArg PyData.str app1)) (ev_ixS (nm 2) (nm 9) (by omega) hw) (by rw [l2]; show s.fo.length + 1 + 1 ≤ sizeLine; omega)).to (congrArg PyData.str (app1.trans (congrArg strL e4)))) (ea_cons (ev_add (nm 7) (nm 3)) ea_nil)) (by
      intro env he
      cases env
      dsimp only at he
      subst he
      kernel_rfl)))))))) (eb_one (EvS.to (es_set (ss_ 9) ((ev_add (nm 9) ev_int).to (congrArg PyData.int ea))) rfl))
  have tst : decide (takeV s.ns 9 = 3 ∧ s.at_ + 1 < w.length ∧ ltr w s.at_ ≠ ltr w (s.at_ + 1)) = (decide (takeV s.ns 9 = 3) && (decide (((s.at_ : Nat) : Int) + 1 < (w.length : Int)) && !decide ((⟨#[ltr w s.at_]⟩ : Str) = ⟨#[ltr w (s.at_ + 1)]⟩))) := by
    have h1 : decide (((s.at_ : Nat) : Int) + 1 < (w.length : Int)) = decide (s.at_ + 1 < w.length) := by
      by_cases h : s.at_ + 1 < w.length
      · rw [decide_eq_true h, decide_eq_true (by omega)]
      · rw [decide_eq_false h, decide_eq_false (by omega)]
    rw [h1]
    simp only [str1]
    by_cases a : takeV s.ns 9 = 3 <;> by_cases b : s.at_ + 1 < w.length <;> by_cases c : ltr w s.at_ = ltr w (s.at_ + 1) <;> simp [a, b, c]
  by_cases k3 : takeV s.ns 9 = 3 ∧ s.at_ + 1 < w.length ∧ ltr w s.at_ ≠ ltr w (s.at_ + 1)
  · have e : stepM p w s = ⟨s.ns.dropLast, s.cost + p.turn, s.fo ++ [ltr w (s.at_ + 1), ltr w s.at_], s.at_ + 2⟩ := by unfold stepM; rw [if_neg k0, if_neg k1, if_neg k2, if_pos k3]
    rw [e]
    have hw1 : atI w.cps.toList (((s.at_ + 1 : Nat)) : Int) = some (ltr w (s.at_ + 1)) := atI_nat (ltr_get k3.2.1)
    have l2 : (strL (s.fo ++ [ltr w (s.at_ + 1)])).length = s.fo.length + 1 := by rw [strL_len]; simp
    have e4 : (s.fo ++ [ltr w (s.at_ + 1)]) ++ [ltr w s.at_] = s.fo ++ [ltr w (s.at_ + 1), ltr w s.at_] := by simp
    have ea2 : ((s.at_ + 1 : Nat) : Int) + 1 = ((s.at_ + 2 : Nat) : Int) := by omega
    exact eb_cons (es_ifF ((EvC.t (ec_eqI (nm 10) ev_int)).to (decide_eq_false k0)) (eb_one (es_ifF ((EvC.t (ec_eqI (nm 10) ev_int)).to (decide_eq_false k1)) (eb_one (es_ifF ((EvC.t (ec_eqI (nm 10) ev_int)).to (decide_eq_false k2)) (eb_one (es_ifT ((EvW.t (ew_and (EvC.t (ec_eqI (nm 10) ev_int)) fun h1 => ew_and (EvC.t (ec_lt (ev_add (nm 9) ev_int) (ev_lenS (bi (f_len m) bt_len) (nm 2) (by omega)))) fun h2 => ew_and1 (EvC.t (ec_neX (ev_ixS (nm 2) (nm 9) (by omega) hw) (ev_ixS (nm 2) ((ev_add (nm 9) ev_int).to (congrArg PyData.int ea)) (by omega) hw1))))).to (tst.symm.trans (decide_eq_true k3)))
      (eb_one (es_par3 (d1 := .str (strL (s.fo ++ [ltr w (s.at_ + 1), ltr w s.at_]))) (d3 := .int ((s.at_ + 1 : Nat) : Int)) (ss_ 8) (ss_ 7) (ss_ 9) rfl rfl rfl (ea_cons ((ev_addS ((ev_addS (nm 8) (ev_ixS (nm 2) ((ev_add (nm 9) ev_int).to (congrArg PyData.int ea)) (by omega) hw1) (by rw [l1]; show s.fo.length + 1 ≤ sizeLine; omega)).to (congrArg PyData.str app1)) (ev_ixS (nm 2) (nm 9) (by omega) hw) (by rw [l2]; show s.fo.length + 1 + 1 ≤ sizeLine; omega)).to (congrArg PyData.str (app1.trans (congrArg strL e4)))) (ea_cons (ev_add (nm 7) (nm 6)) (ea_cons ((ev_add (nm 9) ev_int).to (congrArg PyData.int ea)) ea_nil))) (by
      intro env he
      cases env
      dsimp only at he
      subst he
      kernel_rfl)))))))))) (eb_one (EvS.to (es_set (ss_ 9) ((ev_add (nm 9) ev_int).to (congrArg PyData.int ea2))) rfl))
  · have e : stepM p w s = ⟨s.ns.dropLast, s.cost, s.fo ++ [ltr w s.at_], s.at_ + 1⟩ := by unfold stepM; rw [if_neg k0, if_neg k1, if_neg k2, if_neg k3]
    rw [e]
    exact eb_cons (es_ifF ((EvC.t (ec_eqI (nm 10) ev_int)).to (decide_eq_false k0)) (eb_one (es_ifF ((EvC.t (ec_eqI (nm 10) ev_int)).to (decide_eq_false k1)) (eb_one (es_ifF ((EvC.t (ec_eqI (nm 10) ev_int)).to (decide_eq_false k2)) (eb_one (es_ifF ((EvW.t (ew_and (EvC.t (ec_eqI (nm 10) ev_int)) fun h1 => ew_and (EvC.t (ec_lt (ev_add (nm 9) ev_int) (ev_lenS (bi (f_len m) bt_len) (nm 2) (by omega)))) fun h2 => ew_and1 (EvC.t (ec_neX (ev_ixS (nm 2) (nm 9) (by omega) hw) (ev_ixS (nm 2) ((ev_add (nm 9) ev_int).to (congrArg PyData.int ea)) (by omega) (atI_nat (ltr_get (by have := of_decide_eq_true h2; omega)))))))).to (tst.symm.trans (decide_eq_false k3)))
      (eb_one (es_set (ss_ 8) ((ev_addS (nm 8) (ev_ixS (nm 2) (nm 9) (by omega) hw) (by rw [l1]; show s.fo.length + 1 ≤ sizeLine; omega)).to (congrArg PyData.str app1))))))))))) (eb_one (EvS.to (es_set (ss_ 9) ((ev_add (nm 9) ev_int).to (congrArg PyData.int ea))) rfl))
theorem made_run (m : M g) {p : Pr} {w : Str} (sm : w.length ≤ 1000) {body els : List Stmt} {c : Expr} {pos : Pos} (hb : (defBody s__law_made)[4]? = some (.While c body els pos)) : ∀ (f : Nat) (s : MS) (k : W), w.length ≤ s.at_ + f → s.at_ ≤ 1002 → s.fo.length ≤ 2 * s.at_ →
    ∃ k', Wh (q__law_made g 1) c body (mS p w s k) (mS p w (runM p w f s) k') := by
  intro f
  have sz := sizeLine_eq
  have tst : ∀ (s : MS) (k : W) (b : Bool), b = decide (s.at_ < w.length) → EvT (q__law_made g 1) c (mS p w s k) b (mS p w s k) := by
    intro s k b hk
    cases hb
    refine (EvC.t (ec_lt (nm 9) (ev_lenS (bi (f_len m) bt_len) (nm 2) (by omega)))).to ?_
    rw [hk]
    by_cases h : s.at_ < w.length
    · rw [decide_eq_true h, decide_eq_true (by omega)]
    · rw [decide_eq_false h, decide_eq_false (by omega)]
  induction f with
  | zero =>
    intro s k hf _ _
    exact ⟨k, .stop (tst s k false (decide_eq_false (by omega)).symm)⟩
  | succ f ih =>
    intro s k hf h1 h2
    by_cases h : s.at_ < w.length
    · have e : runM p w (f + 1) s = runM p w f (stepM p w s) := by show (if s.at_ < w.length then _ else _) = _; rw [if_pos h]
      rw [e]
      obtain ⟨a1, a2, a3⟩ := stepM_at (p := p) (w := w) (s := s)
      obtain ⟨k1, t1⟩ := made_turn m sm (p := p) (k := k) (by omega) h hb
      obtain ⟨k2, t2⟩ := ih (stepM p w s) k1 (by omega) (by omega) (by omega)
      exact ⟨k2, .go (tst s k true (decide_eq_true h).symm) (.inl t1) t2⟩
    · have e : runM p w (f + 1) s = s := by show (if s.at_ < w.length then _ else _) = _; rw [if_neg h]
      rw [e]
      exact ⟨k, .stop (tst s k false (decide_eq_false h).symm)⟩
def sp_made : FSpec := fun ws bs res => ∃ ns p w, w.length ≤ 1000 ∧ ws = [.bor 0, .dat (prD p), .dat (.str w)] ∧ bs = [.lst (intD ns)] ∧ res = .d (.tuple [.str (strL (madeOf p w ns).fo), .int (madeOf p w ns).cost]) [.lst (intD (madeOf p w ns).ns)]
theorem made_ok (m : M g) : FnM g 2 "_law_made" ["pool", "prices", "word"] sp_made := m__law_made m fun ws bs res h hl => by
  obtain ⟨ns, p, w, sm, rfl, rfl, rfl⟩ := h
  have sz := sizeLine_eq
  obtain ⟨k', t⟩ := made_run (c := _) (body := _) (els := _) (pos := _) m (p := p) sm rfl w.length ⟨ns, 0, [], 0⟩ .un (by show w.length ≤ 0 + w.length; omega) (by show 0 ≤ 1002; omega) (Nat.zero_le _)
  refine fnD (eb_cons (es_tup (is := [3, 4, 5, 6]) (js := [3, 4, 5, 6]) (nm 1) (eg_cons (ss_ 3) (eg_cons (ss_ 4) (eg_cons (ss_ 5) (eg_cons (ss_ 6) eg_nil (by decide)) (by decide)) (by decide)) (by decide)) rfl)
    (eb_cons (es_set (ss_ 7) ev_int) (eb_cons (es_set (ss_ 8) ev_str) (eb_cons (es_set (ss_ 9) ev_int) (eb_cons (es_wh (σ := mS p w ⟨ns, 0, [], 0⟩ .un) t) (eb_one (es_ret (ev_tup (ea_cons (nm 8) (ea_cons (nm 7) ea_nil)) (by show 2 ≤ sizeLine; omega))))))))) rfl
end
end TR

set_option Elab.async false
set_option linter.all false
set_option maxRecDepth 100000
set_option maxHeartbeats 4000000
namespace TR
open PySem PySem.Spec L2
/-! ### _law_distance: slots prices 0 one 1 other 2 put 3 leave 4 change 5 turn 6 rows 7 k 8 i 9 row 10 found 11 -/
section
variable (p : Pr) (w o : Str)
def lrow (i n : Nat) : List PyData := (List.range (n + 1)).map fun (b : Nat) => PyData.int (D p (ltr w) (ltr o) i b)
def lrows (i : Nat) : List PyData := (List.range (i + 1)).map fun (a : Nat) => PyData.list (lrow p w o a o.length)
def lwI (i k : Nat) : List Int :=
  [D p (ltr w) (ltr o) i (k + 1) + p.leave, D p (ltr w) (ltr o) (i + 1) k + p.put, D p (ltr w) (ltr o) i k + cost p (ltr w) (ltr o) i k] ++ (if TwP w (ltr o) k i then [D p (ltr w) (ltr o) (i - 1) (k - 1) + p.turn] else [])
def ldE (rs : List PyData) (k i row fo : W) : S :=
  ⟨[.dat (prD p), .dat (.str w), .dat (.str o), .dat (.int p.put), .dat (.int p.leave), .dat (.int p.change), .dat (.int p.turn), .own (.lst rs), k, i, row, fo], []⟩
def ldK (i : Nat) : W := if i = 0 then .un else if o.length = 0 then .un else .dat (.int (o.length : Int))
def ldF (i : Nat) : W := if i = 0 then .un else if o.length = 0 then .un else .own (.lst (intD (lwI p w o (i - 1) (o.length - 1))))
def ldI (i : Nat) : W := match i with
  | 0 => .un
  | i + 1 => .dat (.int ((i + 1 : Nat) : Int))
def ldR (i : Nat) : W := match i with
  | 0 => .un
  | i + 1 => .dat (.list (lrow p w o (i + 1) o.length))
def ldS (i : Nat) : S := ldE p w o (lrows p w o i) (ldK o i) (ldI i) (ldR p w o i) (ldF p w o i)
def inK (i k : Nat) : W := match k with
  | 0 => ldK o i
  | k + 1 => .dat (.int ((k + 1 : Nat) : Int))
def inF (i k : Nat) : W := match k with
  | 0 => ldF p w o i
  | k + 1 => .own (.lst (intD (lwI p w o i k)))
def inS (i k : Nat) : S := ldE p w o (lrows p w o i) (inK o i k) (.dat (.int ((i + 1 : Nat) : Int))) (.own (.lst (lrow p w o (i + 1) k))) (inF p w o i k)
end
theorem lrow_get {p : Pr} {w o : Str} {i n b : Nat} (h : b ≤ n) : (lrow p w o i n)[b]? = some (.int (D p (ltr w) (ltr o) i b)) := by
  unfold lrow
  rw [List.getElem?_map, List.getElem?_range (by omega)]
  rfl
theorem lrows_get {p : Pr} {w o : Str} {i a : Nat} (h : a ≤ i) : (lrows p w o i)[a]? = some (.list (lrow p w o a o.length)) := by
  unfold lrows
  rw [List.getElem?_map, List.getElem?_range (by omega)]
  rfl
theorem lw_min {p : Pr} {w o : Str} {i k : Nat} : D p (ltr w) (ltr o) (i + 1) (k + 1) ∈ lwI p w o i k ∧ ∀ y ∈ lwI p w o i k, D p (ltr w) (ltr o) (i + 1) (k + 1) ≤ y := by
  obtain ⟨g1, g2, g3, g4, g5⟩ := D_min (p := p) (u := ltr w) (v := ltr o) (i := i) (j := k)
  unfold lwI
  constructor
  · rcases g5 with e | e | e | ⟨i', j', a, b, t, e⟩
    · rw [e]; simp
    · rw [e]; simp
    · rw [e]; simp
    · subst a b
      have tp : TwP w (ltr o) (j' + 1) (i' + 1) := ⟨by omega, by omega, t⟩
      rw [if_pos tp, e]
      simp
  · intro y hy
    rcases List.mem_append.mp hy with h | h
    · simp only [List.mem_cons, List.not_mem_nil, or_false] at h
      rcases h with rfl | rfl | rfl
      · exact g2
      · exact g1
      · exact g3
    · split at h
      · rename_i tp
        obtain ⟨a, b, t⟩ := tp
        have e := List.mem_singleton.mp h
        rw [e]
        exact g4 (i - 1) (k - 1) (by omega) (by omega) t
      · exact absurd h List.not_mem_nil
section
variable {g : G}
theorem ld_turn (m : M g) {p : Pr} {w o : Str} {i k : Nat} (sm : w.length ≤ 1000) (so : o.length ≤ 1000) (hi : i < w.length) (hk : k < o.length) {b0 : W} {els body1 els1 : List Stmt} {tg it tg1 it1 : Expr} {pos pos1 : Pos} {st0 : Stmt} {rest : List Stmt} (hb : (defBody s__law_distance)[2]? = some (.For tg it (st0 :: .For tg1 it1 body1 els1 pos1 :: rest) els pos)) :
    EvB (q__law_distance g 0) body1 (ldE p w o (lrows p w o i) (.dat (.int ((k + 1 : Nat) : Int))) (.dat (.int ((i + 1 : Nat) : Int))) (.own (.lst (lrow p w o (i + 1) k))) b0) (.nx (inS p w o i (k + 1))) := by
  cases hb
  have sz := sizeLine_eq
  have i1 : (((i + 1 : Nat) : Int) - 1) = ((i : Nat) : Int) := by omega
  have k1 : (((k + 1 : Nat) : Int) - 1) = ((k : Nat) : Int) := by omega
  have wz : ∀ n, n < w.length → atI w.cps.toList ((n : Nat) : Int) = some (ltr w n) := fun n h => atI_nat (ltr_get h)
  have oz : ∀ n, n < o.length → atI o.cps.toList ((n : Nat) : Int) = some (ltr o n) := fun n h => atI_nat (ltr_get h)
  have i2 : 1 ≤ i → (((i + 1 : Nat) : Int) - 2) = ((i - 1 : Nat) : Int) := fun h => by omega
  have k2 : 1 ≤ k → (((k + 1 : Nat) : Int) - 2) = ((k - 1 : Nat) : Int) := fun h => by omega
  have app2 : ∀ a b : Nat, (⟨#[a]⟩ : Str) ++ ⟨#[b]⟩ = ⟨#[a, b]⟩ := fun a b => rfl
  -- the test
  have tst : decide (TwP w (ltr o) k i) = (decide ((1 : Int) < ((i + 1 : Nat) : Int)) && (decide ((1 : Int) < ((k + 1 : Nat) : Int)) && (!decide ((⟨#[ltr w (i - 1)]⟩ : Str) = ⟨#[ltr w i]⟩) && decide ((⟨#[ltr w (i - 1)]⟩ : Str) ++ ⟨#[ltr w i]⟩ = ⟨#[ltr o k]⟩ ++ ⟨#[ltr o (k - 1)]⟩)))) := by
    rw [app2, app2]
    by_cases hi1 : 1 ≤ i
    · by_cases hk1 : 1 ≤ k
      · obtain ⟨i', rfl⟩ : ∃ i', i = i' + 1 := ⟨i - 1, by omega⟩
        obtain ⟨k', rfl⟩ : ∃ k', k = k' + 1 := ⟨k - 1, by omega⟩
        have t1 : decide ((1 : Int) < ((i' + 1 + 1 : Nat) : Int)) = true := decide_eq_true (by omega)
        have t2 : decide ((1 : Int) < ((k' + 1 + 1 : Nat) : Int)) = true := decide_eq_true (by omega)
        rw [t1, t2]
        simp only [str1, str2, Bool.true_and, TwP, Tw, Nat.add_sub_cancel]
        by_cases a1 : ltr w i' = ltr w (i' + 1)
        · simp [a1]
        · simp [a1]
      · have : ¬ TwP w (ltr o) k i := fun h => hk1 h.2.1
        have t2 : decide ((1 : Int) < ((k + 1 : Nat) : Int)) = false := decide_eq_false (by omega)
        rw [t2]
        simp [this]
    · have : ¬ TwP w (ltr o) k i := fun h => hi1 h.1
      have t1 : decide ((1 : Int) < ((i + 1 : Nat) : Int)) = false := decide_eq_false (by omega)
      rw [t1]
      simp [this]
  refine eb_cons (es_setO (ss_ 11) (eo_lst (ea_cons (ev_add (ev_ixL (ev_ixN (sl_ 7) rfl ((ev_sub (nm 9) ev_int).to (congrArg PyData.int i1)) rfl (atI_nat (lrows_get (Nat.le_refl _)))) (nm 8) (atI_nat (lrow_get (by omega)))) (nm 4)) (ea_cons (ev_add (ev_ixN (sl_ 10) rfl ((ev_sub (nm 8) ev_int).to (congrArg PyData.int k1)) rfl (atI_nat (lrow_get (Nat.le_refl _)))) (nm 3)) ea_nil)) (by show 2 ≤ sizeLine; omega))) ?_
  refine eb_cons (es_expr (es_append (sl_ 11) rfl (ev_add (ev_ixL (ev_ixN (sl_ 7) rfl ((ev_sub (nm 9) ev_int).to (congrArg PyData.int i1)) rfl (atI_nat (lrows_get (Nat.le_refl _)))) ((ev_sub (nm 8) ev_int).to (congrArg PyData.int k1)) (atI_nat (lrow_get (by omega)))) ((ev_if (EvC.t (ec_eqX (ev_ixS (nm 1) ((ev_sub (nm 9) ev_int).to (congrArg PyData.int i1)) (by omega) (wz _ hi)) (ev_ixS (nm 2) ((ev_sub (nm 8) ev_int).to (congrArg PyData.int k1)) (by omega) (oz _ hk)))) (fun _ => ev_int) fun _ => nm 5).to (d1 := .int (cost p (ltr w) (ltr o) i k)) ?c3)) rfl (by show 2 < sizeLine; omega))) ?rest
  case c3 =>
    unfold cost
    by_cases h : ltr w i = ltr o k
    · rw [if_pos h, if_pos (decide_eq_true (str1.mpr h))]
    · rw [if_neg h, if_neg (by simpa using h)]
  case rest =>
    refine eb_cons (σ1 := ldE p w o (lrows p w o i) (.dat (.int ((k + 1 : Nat) : Int))) (.dat (.int ((i + 1 : Nat) : Int))) (.own (.lst (lrow p w o (i + 1) k))) (.own (.lst (intD (lwI p w o i k))))) ?tw (eb_one (EvS.to (es_expr (es_append (sl_ 10) rfl (ev_min (bi (f_min m) bt_min) (nmL 11) lw_min.1 lw_min.2) rfl ?z)) ?e))
    case z =>
      unfold lrow
      rw [List.length_map, List.length_range]
      omega
    case e =>
      have e0 : lrow p w o (i + 1) (k + 1) = lrow p w o (i + 1) k ++ [.int (D p (ltr w) (ltr o) (i + 1) (k + 1))] := by
        unfold lrow
        rw [List.range_succ, List.map_append]
        rfl
      unfold inS
      rw [e0]
      rfl
    case tw =>
      by_cases t : TwP w (ltr o) k i
      · have ew : lwI p w o i k = [D p (ltr w) (ltr o) i (k + 1) + p.leave, D p (ltr w) (ltr o) (i + 1) k + p.put, D p (ltr w) (ltr o) i k + cost p (ltr w) (ltr o) i k, D p (ltr w) (ltr o) (i - 1) (k - 1) + p.turn] := by unfold lwI; rw [if_pos t]; rfl
        rw [ew]
        obtain ⟨hi1, hk1, _⟩ := id t
        refine es_ifT ((EvW.t (ew_and (EvC.t (ec_gt (nm 9) ev_int)) fun h1 => ew_and (EvC.t (ec_gt (nm 8) ev_int)) fun h2 => ew_and (EvC.t (ec_neX (ev_ixS (nm 1) ((ev_sub (nm 9) ev_int).to (congrArg PyData.int (i2 hi1))) (by omega) (wz _ (by omega))) (ev_ixS (nm 1) ((ev_sub (nm 9) ev_int).to (congrArg PyData.int i1)) (by omega) (wz _ hi))))
          fun h3 => ew_and1 (EvC.t (ec_eqX (ev_addS (ev_ixS (nm 1) ((ev_sub (nm 9) ev_int).to (congrArg PyData.int (i2 hi1))) (by omega) (wz _ (by omega))) (ev_ixS (nm 1) ((ev_sub (nm 9) ev_int).to (congrArg PyData.int i1)) (by omega) (wz _ hi)) (by show 1 + 1 ≤ sizeLine; omega)) (ev_addS (ev_ixS (nm 2) ((ev_sub (nm 8) ev_int).to (congrArg PyData.int k1)) (by omega) (oz _ hk)) (ev_ixS (nm 2) ((ev_sub (nm 8) ev_int).to (congrArg PyData.int (k2 hk1))) (by omega) (oz _ (by omega))) (by show 1 + 1 ≤ sizeLine; omega)))))).to (tst.symm.trans (decide_eq_true t)))
          (eb_one (EvS.to (es_expr (es_append (sl_ 11) rfl (ev_add (ev_ixL (ev_ixN (sl_ 7) rfl ((ev_sub (nm 9) ev_int).to (congrArg PyData.int (i2 hi1))) rfl (atI_nat (lrows_get (by omega)))) ((ev_sub (nm 8) ev_int).to (congrArg PyData.int (k2 hk1))) (atI_nat (lrow_get (by omega)))) (nm 6)) rfl (by show 3 < sizeLine; omega))) rfl))
      · have ew : lwI p w o i k = [D p (ltr w) (ltr o) i (k + 1) + p.leave, D p (ltr w) (ltr o) (i + 1) k + p.put, D p (ltr w) (ltr o) i k + cost p (ltr w) (ltr o) i k] := by unfold lwI; rw [if_neg t]; rfl
        rw [ew]
        refine es_ifF ((EvW.t (ew_and (EvC.t (ec_gt (nm 9) ev_int)) fun h1 => ew_and (EvC.t (ec_gt (nm 8) ev_int)) fun h2 => ew_and (EvC.t (ec_neX (ev_ixS (nm 1) ((ev_sub (nm 9) ev_int).to (congrArg PyData.int (i2 (by have := of_decide_eq_true h1; omega)))) (by omega) (wz _ (by omega))) (ev_ixS (nm 1) ((ev_sub (nm 9) ev_int).to (congrArg PyData.int i1)) (by omega) (wz _ hi))))
          fun h3 => ew_and1 (EvC.t (ec_eqX (ev_addS (ev_ixS (nm 1) ((ev_sub (nm 9) ev_int).to (congrArg PyData.int (i2 (by have := of_decide_eq_true h1; omega)))) (by omega) (wz _ (by omega))) (ev_ixS (nm 1) ((ev_sub (nm 9) ev_int).to (congrArg PyData.int i1)) (by omega) (wz _ hi)) (by show 1 + 1 ≤ sizeLine; omega)) (ev_addS (ev_ixS (nm 2) ((ev_sub (nm 8) ev_int).to (congrArg PyData.int k1)) (by omega) (oz _ hk)) (ev_ixS (nm 2) ((ev_sub (nm 8) ev_int).to (congrArg PyData.int (k2 (by have := of_decide_eq_true h2; omega)))) (by omega) (oz _ (by omega))) (by show 1 + 1 ≤ sizeLine; omega)))))).to (tst.symm.trans (decide_eq_false t))) eb_nil
def sp_ld : FSpec := fun ws bs res => ∃ p w o, w.length ≤ 1000 ∧ o.length ≤ 1000 ∧ ws = [.dat (prD p), .dat (.str w), .dat (.str o)] ∧ bs = [] ∧ res = .d (.int (D p (ltr w) (ltr o) w.length o.length)) []
theorem ld_ok (m : M g) : FnM g 1 "_law_distance" ["prices", "one", "other"] sp_ld := m__law_distance m fun ws bs res h hl => by
  obtain ⟨p, w, o, sm, so, rfl, rfl, rfl⟩ := h
  have sz := sizeLine_eq
  have hl1 : ∀ n : Nat, (ranged 1 (((n : Int) + 1) - 1).toNat).length = n := fun n => by
    unfold ranged
    rw [List.length_map, List.length_range]
    omega
  refine fnD (eb_cons (es_tup (is := [3, 4, 5, 6]) (js := [3, 4, 5, 6]) (nm 0) (eg_cons (ss_ 3) (eg_cons (ss_ 4) (eg_cons (ss_ 5) (eg_cons (ss_ 6) eg_nil (by decide)) (by decide)) (by decide)) (by decide)) rfl)
    (eb_cons (es_setO (ss_ 7) (eo_lst (ds := lrows p w o 0) (ea_cons ((EvO.data (eo_map 8 (f := fun d => match d with | .int i => .int (p.put * i) | d => d) (ei_range1 (n := (o.length : Int) + 1) (bi (f_range m) bt_range) (ev_add (ev_lenS (bi (f_len m) bt_len) (nm 2) (by omega)) ev_int) (by omega) (by omega)) ?pl ?len ?he (BlkOk.of ?blk) (ss_ 8))).to ?r0) ea_nil) (by show 1 ≤ sizeLine; omega)))
    (eb_cons (σ1 := ldS p w o w.length) ?loop (eb_one (es_ret (ev_ixL (ev_ixN (sl_ 7) rfl (ev_neg ev_int) rfl (atI_last (d := PyData.list (lrow p w o w.length o.length)) ?la)) (ev_neg ev_int) (atI_last (d := PyData.int (D p (ltr w) (ltr o) w.length o.length)) ?lb))))))) rfl
  case pl =>
    rintro w ⟨⟩
    trivial
  case len =>
    simp only [ranged, List.length_map, List.length_range]
    omega
  case he =>
    intro d hd
    obtain ⟨k, hk, rfl⟩ := ranged_mem hd
    exact ev_mul (nm 3) (nm 8) (.inr ⟨by omega, by omega⟩)
  case blk => rfl
  case r0 =>
    show PyData.list _ = PyData.list (lrow p w o 0 o.length)
    unfold ranged lrow
    rw [List.map_map]
    have e : ((o.length : Int) + 1).toNat = o.length + 1 := by omega
    rw [e]
    refine congrArg PyData.list (List.map_congr_left fun k _ => ?_)
    show PyData.int (p.put * (0 + (k : Int))) = _
    rw [Int.zero_add, D_0j]
  case la =>
    show (lrows p w o w.length).getLast? = some (.list (lrow p w o w.length o.length))
    unfold lrows
    rw [List.range_succ, List.map_append]
    simp
  case lb =>
    unfold lrow
    rw [List.range_succ, List.map_append]
    simp
  case loop =>
    show EvS _ _ (ldS p w o 0) _
    refine EvS.to (es_for (s := ldS p w o) (ei_range2 (lo := 1) (n := (w.length : Int) + 1) (bi (f_range m) bt_range) ev_int (ev_add (ev_lenS (bi (f_len m) bt_len) (nm 1) (by omega)) ev_int) (by omega)) (eg_name (js := [9]) (ss_ 9) (by decide)) (fun _ _ => trivial) (.all fun i d hd => .inl ?_)) (by rw [hl1])
    obtain ⟨rfl, hi⟩ := ranged_get hd
    have hi' : i < w.length := by omega
    have ek : (1 + (i : Int)) = ((i + 1 : Nat) : Int) := by omega
    rw [ek]
    show EvB _ _ (ldE p w o (lrows p w o i) (ldK o i) (.dat (.int ((i + 1 : Nat) : Int))) (ldR p w o i) (ldF p w o i)) _
    refine eb_cons (es_setO (ss_ 10) (eo_lst (ds := lrow p w o (i + 1) 0) (ea_cons ((ev_mul (nm 4) (nm 9) (.inr ⟨by omega, by omega⟩)).to ?r1) ea_nil) (by show 1 ≤ sizeLine; omega))) (eb_cons (σ1 := inS p w o i o.length) ?inner (eb_one (EvS.to (es_expr (es_append (sl_ 7) rfl (nmF 10) rfl ?z)) ?e)))
    case r1 =>
      show PyData.int (p.leave * ((i + 1 : Nat) : Int)) = .int (D p (ltr w) (ltr o) (i + 1) 0)
      rw [D_i0]
    case z =>
      unfold lrows
      rw [List.length_map, List.length_range]
      omega
    case e =>
      have e0 : lrows p w o (i + 1) = lrows p w o i ++ [.list (lrow p w o (i + 1) o.length)] := by
        unfold lrows
        rw [List.range_succ, List.map_append]
        rfl
      have e1 : ldK o (i + 1) = inK o i o.length := by
        unfold ldK inK
        cases h : o.length with
        | zero =>
          unfold ldK
          simp [h]
        | succ n => rfl
      have e2 : ldF p w o (i + 1) = inF p w o i o.length := by
        unfold ldF inF
        cases h : o.length with
        | zero =>
          unfold ldF
          simp [h]
        | succ n => rfl
      unfold ldS
      rw [e0, e1, e2]
      rfl
    case inner =>
      show EvS _ _ (inS p w o i 0) _
      refine EvS.to (es_for (s := inS p w o i) (ei_range2 (lo := 1) (n := (o.length : Int) + 1) (bi (f_range m) bt_range) ev_int (ev_add (ev_lenS (bi (f_len m) bt_len) (nm 2) (by omega)) ev_int) (by omega)) (eg_name (js := [8]) (ss_ 8) (by decide)) (fun _ _ => trivial) (.all fun k d hd => .inl ?_)) (by rw [hl1])
      obtain ⟨rfl, hk⟩ := ranged_get hd
      have ek : (1 + (k : Int)) = ((k + 1 : Nat) : Int) := by omega
      rw [ek]
      exact ld_turn m sm so hi' (by omega) (b0 := inF p w o i k) rfl
end
end TR

set_option Elab.async false
set_option linter.all false
set_option maxRecDepth 100000
set_option maxHeartbeats 4000000
namespace TR
open PySem PySem.Spec L2
/-! ### _law_pool: slots script 0 many 1 pool 2 seed 3 cell 4 left 5 k 6 -/
structure PS where
  pool : List Int
  seed : Int
  cw : W
  lw : W
  kw : W
def dg (s : List Int × Int) : List Int × Int := if 0 < s.2 then (s.1 ++ [s.2 % 1000], s.2 / 1000) else s
def dgN : Nat → List Int × Int → List Int × Int
  | 0, s => s
  | n + 1, s => dg (dgN n s)
def seedC (s : PS) (n : Int) : Int := (s.seed * 48271 + ((n.natAbs : Nat) : Int) % 2147483629 + 7 * (s.pool.length : Int) + (if n < 0 then 1 else 0)) % 2147483647
def cellStep (s : PS) (n : Int) : PS :=
  if (10 : Int) ^ 18 ≤ ((n.natAbs : Nat) : Int) then ⟨(dgN 60 (s.pool, ((n.natAbs : Nat) : Int))).1, seedC s n, .dat (.int n), .dat (.int (dgN 60 (s.pool, ((n.natAbs : Nat) : Int))).2), .dat (.int 59)⟩
  else ⟨s.pool, seedC s n, .dat (.int n), .dat (.int ((n.natAbs : Nat) : Int)), s.kw⟩
def cells (ns : List Int) (k : Nat) : PS := (ns.take k).foldl cellStep ⟨[], 83891, .un, .un, .un⟩
def seedK (s : PS) (k : Nat) : Int := (s.seed * 69621 + 12347 + (k : Int)) % 2147483647
def moreStep (s : PS) (k : Nat) : PS := ⟨s.pool ++ [seedK s k * (seedK s k + 2 * (k : Int) + 1) % 2147483629 / 1009 % 1000], seedK s k, s.cw, s.lw, .dat (.int (k : Int))⟩
def moreN (s : PS) : Nat → PS
  | 0 => s
  | k + 1 => moreStep (moreN s k) k
def poolOf (ns : List Int) : List Int := (moreN (cells ns ns.length) 260).pool.reverse
def plS (ns : List Int) (s : PS) : S := ⟨[.dat (.list (intD ns)), .dat (.int 260), .own (.lst (intD s.pool)), .dat (.int s.seed), s.cw, s.lw, s.kw], []⟩
theorem dgN_len (n : Nat) (s : List Int × Int) : (dgN n s).1.length ≤ s.1.length + n := by
  induction n with
  | zero => exact Nat.le_refl _
  | succ n ih =>
    show (dg (dgN n s)).1.length ≤ _
    unfold dg
    split
    · rw [List.length_append]
      show _ + 1 ≤ _
      omega
    · omega
theorem cellStep_ok {s : PS} {n : Int} : (cellStep s n).pool.length ≤ s.pool.length + 60 ∧ 0 ≤ (cellStep s n).seed ∧ (cellStep s n).seed < 2147483647 := by
  have h1 : 0 ≤ seedC s n ∧ seedC s n < 2147483647 := by unfold seedC; omega
  unfold cellStep
  split
  · exact ⟨dgN_len 60 _, h1⟩
  · exact ⟨by dsimp only; omega, h1⟩
theorem cells_ok (ns : List Int) : ∀ k, (cells ns k).pool.length ≤ 60 * k ∧ 0 ≤ (cells ns k).seed ∧ (cells ns k).seed < 2147483647 := by
  intro k
  induction k with
  | zero => exact ⟨Nat.le_refl _, (show (0 : Int) ≤ 83891 by decide), (show (83891 : Int) < 2147483647 by decide)⟩
  | succ k ih =>
    unfold cells at ih ⊢
    rw [List.take_succ, List.foldl_append]
    cases e : ns[k]? with
    | none => exact ⟨by show (List.foldl cellStep _ (ns.take k)).pool.length ≤ _; omega, ih.2⟩
    | some n =>
      have z := cellStep_ok (s := (ns.take k).foldl cellStep ⟨[], 83891, .un, .un, .un⟩) (n := n)
      exact ⟨Nat.le_trans z.1 (by omega), z.2⟩
theorem cells_succ {ns : List Int} {k : Nat} {n : Int} (h : ns[k]? = some n) : cells ns (k + 1) = cellStep (cells ns k) n := by
  unfold cells
  rw [take_succ_get h, List.foldl_append]
  rfl
theorem moreN_ok (s : PS) (h1 : s.pool.length ≤ 4000) (h2 : 0 ≤ s.seed ∧ s.seed < 2147483647) : ∀ k, (moreN s k).pool.length = s.pool.length + k ∧ 0 ≤ (moreN s k).seed ∧ (moreN s k).seed < 2147483647 := by
  intro k
  induction k with
  | zero => exact ⟨rfl, h2⟩
  | succ k ih =>
    show (moreStep (moreN s k) k).pool.length = _ ∧ 0 ≤ (moreStep (moreN s k) k).seed ∧ (moreStep (moreN s k) k).seed < 2147483647
    unfold moreStep
    refine ⟨?_, ?_⟩
    · dsimp only
      rw [List.length_append, ih.1]
      rfl
    · dsimp only
      unfold seedK
      omega
section
variable {g : G}
theorem more_turn (m : M g) {ns : List Int} {s : PS} {k : Nat} (hk : k < 260) (h1 : s.pool.length ≤ 5000) (h2 : 0 ≤ s.seed ∧ s.seed < 2147483647) {body els : List Stmt} {tg it : Expr} {pos : Pos} (hb : (defBody s__law_pool)[3]? = some (.For tg it body els pos)) :
    EvB (q__law_pool g 1) body ⟨[.dat (.list (intD ns)), .dat (.int 260), .own (.lst (intD s.pool)), .dat (.int s.seed), s.cw, s.lw, .dat (.int (k : Int))], []⟩ (.nx (plS ns (moreStep s k))) := by
  cases hb
  have sz := sizeLine_eq
  have hs : 0 ≤ seedK s k ∧ seedK s k < 2147483647 := by unfold seedK; omega
  refine eb_cons (es_set (ss_ 3) (ev_mod (ev_add (ev_add (ev_mul (nm 3) ev_int (.inr ⟨by omega, by omega⟩)) ev_int) (nm 6)) ev_int (by decide))) (eb_one (EvS.to (es_expr (es_append (ds := intD s.pool) (sl_ 2) rfl (ev_mod (ev_fdiv (ev_mod (ev_intI (bi (f_int m) bt_int) (ev_mul (nm 3) (ev_add (ev_add (nm 3) (ev_mul ev_int (nm 6) (.inl ⟨by omega, by omega⟩))) ev_int) (.inl ⟨?a, ?b⟩))) ev_int (by decide)) ev_int ⟨by decide, by decide⟩) ev_int (by decide)) rfl ?z)) ?e))
  case a => exact (show -(2 ^ 64) < seedK s k from by omega)
  case b => exact (show seedK s k < 2 ^ 64 from by omega)
  case z =>
    rw [List.length_map]
    omega
  case e =>
    have e0 : intD (moreStep s k).pool = intD s.pool ++ [.int (seedK s k * (seedK s k + 2 * (k : Int) + 1) % 2147483629 / 1009 % 1000)] := by
      unfold moreStep
      show List.map PyData.int (_ ++ _) = _
      rw [List.map_append]
      rfl
    unfold plS
    rw [e0]
    rfl
theorem dig_turn (m : M g) {ns : List Int} {se : Int} {cw kw : W} {r : List Int × Int} (h1 : r.1.length ≤ 5000) {els body1 els1 : List Stmt} {tg it tg1 it1 c : Expr} {pos pos1 pos2 : Pos} {st0 st1 : Stmt} {e2 : List Stmt} (hb : (defBody s__law_pool)[2]? = some (.For tg it [st0, st1, .If c [.For tg1 it1 body1 els1 pos1] e2 pos2] els pos)) :
    EvB (q__law_pool g 1) body1 ⟨[.dat (.list (intD ns)), .dat (.int 260), .own (.lst (intD r.1)), .dat (.int se), cw, .dat (.int r.2), kw], []⟩ (.nx ⟨[.dat (.list (intD ns)), .dat (.int 260), .own (.lst (intD (dg r).1)), .dat (.int se), cw, .dat (.int (dg r).2), kw], []⟩) := by
  cases hb
  have sz := sizeLine_eq
  by_cases h : 0 < r.2
  · have e : dg r = (r.1 ++ [r.2 % 1000], r.2 / 1000) := by unfold dg; rw [if_pos h]
    rw [e]
    refine eb_one (es_ifT ((EvC.t (ec_gt (nm 5) ev_int)).to (decide_eq_true h)) (eb_cons (es_expr (es_append (ds := intD r.1) (sl_ 2) rfl (ev_mod (ev_intI (bi (f_int m) bt_int) (nm 5)) ev_int (by decide)) rfl (by rw [List.length_map]; omega))) (eb_one (EvS.to (es_set (ss_ 5) (ev_fdiv (nm 5) ev_int ⟨by decide, by decide⟩)) ?e))))
    have e0 : intD (r.1 ++ [r.2 % 1000]) = intD r.1 ++ [.int (r.2 % 1000)] := by
      show List.map PyData.int (_ ++ _) = _
      rw [List.map_append]
      rfl
    rw [e0]
    rfl
  · have e : dg r = r := by unfold dg; rw [if_neg h]
    rw [e]
    exact eb_one (es_ifF ((EvC.t (ec_gt (nm 5) ev_int)).to (decide_eq_false h)) eb_nil)
theorem cell_turn (m : M g) {ns : List Int} {s : PS} {n : Int} (h1 : s.pool.length ≤ 4000) {els body : List Stmt} {tg it : Expr} {pos : Pos} (hb : (defBody s__law_pool)[2]? = some (.For tg it body els pos)) :
    EvB (q__law_pool g 1) body ⟨[.dat (.list (intD ns)), .dat (.int 260), .own (.lst (intD s.pool)), .dat (.int s.seed), .dat (.int n), s.lw, s.kw], []⟩ (.nx (plS ns (cellStep s n))) := by
  have hb0 := hb
  cases hb
  have sz := sizeLine_eq
  refine eb_cons (es_set (ss_ 5) ((ev_abs (bi (f_abs m) bt_abs) (ev_intI (bi (f_int m) bt_int) (nm 4))).to (d1 := .int ((n.natAbs : Nat) : Int)) ?ab)) (eb_cons (es_set (ss_ 3) ((ev_mod (ev_add (ev_add (ev_add (ev_mul (nm 3) ev_int (.inr ⟨by omega, by omega⟩)) (ev_mod (ev_intI (bi (f_int m) bt_int) (nm 5)) ev_int (by decide))) (ev_mul ev_int (ev_lenL (bi (f_len m) bt_len) (nmL 2)) (.inl ⟨by omega, by omega⟩))) (ev_intB (bi (f_int m) bt_int) (EvC.v (ec_lt (nm 4) ev_int)))) ev_int (by decide)).to (d1 := .int (seedC s n)) ?sd)) ?rest)
  case ab => exact congrArg PyData.int (by split <;> omega)
  case sd =>
    unfold seedC
    rw [List.length_map]
    simp only [decide_eq_true_eq]
  case rest =>
    have p18 : ((10 : Int) ^ (18 : Int).toNat) = (10 : Int) ^ 18 := rfl
    by_cases big : (10 : Int) ^ 18 ≤ ((n.natAbs : Nat) : Int)
    · have e : cellStep s n = ⟨(dgN 60 (s.pool, ((n.natAbs : Nat) : Int))).1, seedC s n, .dat (.int n), .dat (.int (dgN 60 (s.pool, ((n.natAbs : Nat) : Int))).2), .dat (.int 59)⟩ := by unfold cellStep; rw [if_pos big]
      rw [e]
      have hl : (ranged 0 (60 : Int).toNat).length = 60 := by simp [ranged]
      refine eb_one (es_ifT ((EvC.t (ec_ge (nm 5) (ev_pow ev_int ev_int ⟨by decide, by decide, by decide⟩))).to (decide_eq_true (by rw [p18]; exact big))) (eb_one (EvS.to (es_for (s := fun j => ⟨[.dat (.list (intD ns)), .dat (.int 260), .own (.lst (intD (dgN j (s.pool, ((n.natAbs : Nat) : Int))).1)), .dat (.int (seedC s n)), .dat (.int n), .dat (.int (dgN j (s.pool, ((n.natAbs : Nat) : Int))).2), (match j with | 0 => s.kw | j + 1 => .dat (.int ((j : Nat) : Int)))], []⟩)
        (ei_range1 (n := 60) (bi (f_range m) bt_range) ev_int (by decide) (by decide)) (eg_name (js := [6]) (ss_ 6) (by decide)) (fun _ _ => trivial) (.all fun j d hd => .inl ?_)) (by rw [hl]; rfl))))
      obtain ⟨rfl, hk⟩ := ranged_get hd
      have hk' : j < 60 := hk
      have ek : (0 + (j : Int)) = ((j : Nat) : Int) := by omega
      rw [ek]
      have := dgN_len j (s.pool, ((n.natAbs : Nat) : Int))
      exact dig_turn m (r := dgN j (s.pool, ((n.natAbs : Nat) : Int))) (by
        have h2 : (dgN j (s.pool, ((n.natAbs : Nat) : Int))).1.length ≤ s.pool.length + j := this
        omega) hb0
    · have e : cellStep s n = ⟨s.pool, seedC s n, .dat (.int n), .dat (.int ((n.natAbs : Nat) : Int)), s.kw⟩ := by unfold cellStep; rw [if_neg big]
      rw [e]
      exact eb_one (es_ifF ((EvC.t (ec_ge (nm 5) (ev_pow ev_int ev_int ⟨by decide, by decide, by decide⟩))).to (decide_eq_false (by rw [p18]; exact big))) eb_nil)
def sp_pool : FSpec := fun ws bs res => ∃ ns : List Int, ns.length ≤ 63 ∧ ws = [.dat (.list (intD ns)), .dat (.int 260)] ∧ bs = [] ∧ res = .o (intD (poolOf ns)) []
theorem pool_ok (m : M g) : FnM g 2 "_law_pool" ["script", "many"] sp_pool := m__law_pool m fun ws bs res h hl => by
  obtain ⟨ns, hn, rfl, rfl, rfl⟩ := h
  have sz := sizeLine_eq
  have hl2 : (ranged 0 (260 : Int).toNat).length = 260 := by simp [ranged]
  have cut : cutD (intD ns) none (some (63 : Int)) = intD ns := cutD_whole ⟨rfl, by
    show HT.sIx (intD ns).length (intD ns).length (some ((63 : Nat) : Int)) = _
    rw [HT.sIx_nat, List.length_map]
    omega⟩
  obtain ⟨q1, q2⟩ := cells_ok ns ns.length
  refine fnO (eb_cons (es_setO (ss_ 2) (eo_lst ea_nil (by decide))) (eb_cons (es_set (ss_ 3) ev_int) (eb_cons (σ1 := plS ns (cells ns ns.length)) ?l1 (eb_cons (σ1 := plS ns (moreN (cells ns ns.length) 260)) ?l2 (eb_one (es_retO (eo_rev (nmL 2)))))))) ?res
  case res =>
    show (List.map PyData.int _).reverse = List.map PyData.int _
    rw [← List.map_reverse]
    rfl
  case l1 =>
    show EvS _ _ (plS ns (cells ns 0)) _
    refine EvS.to (es_for (s := fun k => plS ns (cells ns k)) (ei_list ((EvO.data (eo_sl (nm 0) ep_none (ep_some ev_int))).to (congrArg PyData.list cut))) (eg_name (js := [4]) (ss_ 4) (by decide)) (fun _ _ => trivial) (.all fun k d hd => .inl ?_)) (by rw [List.length_map])
    rw [List.getElem?_map] at hd
    cases e : ns[k]? with
    | none => rw [e] at hd; cases hd
    | some n =>
      rw [e] at hd
      cases hd
      have hk := lt_of_get e
      rw [cells_succ e]
      obtain ⟨z1, z2⟩ := cells_ok ns k
      exact cell_turn m (s := cells ns k) (by omega) rfl
  case l2 =>
    show EvS _ _ (plS ns (moreN (cells ns ns.length) 0)) _
    refine EvS.to (es_for (s := fun k => plS ns (moreN (cells ns ns.length) k)) (ei_range1 (n := 260) (bi (f_range m) bt_range) (nm 1) (by decide) (by decide)) (eg_name (js := [6]) (ss_ 6) (by decide)) (fun _ _ => trivial) (.all fun k d hd => .inl ?_)) (by rw [hl2])
    obtain ⟨rfl, hk⟩ := ranged_get hd
    have hk' : k < 260 := hk
    have ek : (0 + (k : Int)) = ((k : Nat) : Int) := by omega
    rw [ek]
    obtain ⟨z1, z2⟩ := moreN_ok (cells ns ns.length) (by omega) q2 k
    exact more_turn m hk' (by omega) z2 rfl
end
end TR

set_option Elab.async false
set_option linter.all false
set_option maxRecDepth 100000
set_option maxHeartbeats 4000000
namespace TR
open PySem PySem.Spec L2
/-! ### _law_refused: slots prices 0 one 1 other 2 kind 3 caught 4 e 5 own 6 -/
section
variable {g : G}
/-- the error's class, its value, by kind -/
def Refd (P a b : PyData) (kind : Int) (C : Str) (d : PyData) : Prop :=
  (kind = 0 ∧ C = "InvalidPrices" ∧ d = P ∧ arePrices P = false) ∨ (kind = 1 ∧ C = "InvalidWord" ∧ d = a ∧ arePrices P = true ∧ isWord 12 a = false) ∨ (kind = 2 ∧ C = "InvalidWord" ∧ d = b ∧ arePrices P = true ∧ isWord 12 a = true ∧ isWord 12 b = false)
def sp_refused : FSpec := fun ws bs res => ∃ P a b kind C d, small2 P ∧ small a ∧ small b ∧ dep 1 d ∧ Shows d ∧ Refd P a b kind C d ∧ ws = [.dat P, .dat a, .dat b, .dat (.int kind)] ∧ bs = [] ∧ res = .d (.bool true) []
theorem refused_core (m : M g) (hP : g.P = prog36) {P a b d : PyData} {kind : Int} {C : Str} (s1 : small2 P) (s2 : small a) (s3 : small b) (dd : dep 1 d) (sh : Shows d) (hC : C ∈ ([("InvalidWord" : Str), "InvalidPrices"] : List Str))
    (hS : sp_distance g [.dat P, .dat a, .dat b] [] (.x (He.ga g.K C) d [])) (hk : decide (kind = 0) = decide (C = "InvalidPrices")) (hk2 : (!decide (kind = 0)) = decide (C = "InvalidWord")) (hd : atI [P, a, b] kind = some d) :
    EvFn (q__law_refused g 6) (defBody s__law_refused) [.dat P, .dat a, .dat b, .dat (.int kind)] [] (.d (.bool true) []) := by
  have sz := sizeLine_eq
  obtain ⟨ek, ex⟩ := errK_of (show errsB "/claim/cut.py" "TongueError" ["InvalidWord", "InvalidPrices"] g.K = true from m.c.xb) hC
  have kp := kit_of (show errsB "/claim/cut.py" "TongueError" ["InvalidWord", "InvalidPrices"] g.K = true from m.c.xb) hC m2
  have kw := kit_of (show errsB "/claim/cut.py" "TongueError" ["InvalidWord", "InvalidPrices"] g.K = true from m.c.xb) hC m1
  have shp : ∀ x y : Bool, SeqAt.shaped (.list [.bool x, .bool y]) = true := fun x y => by cases x <;> cases y <;> decide +kernel
  refine fnD (eb_cons (es_set (ss_ 4) ev_non) (eb_cons (es_tryX (T := He.ga g.K "TongueError") (i := 5) (j := 4) (xC := C) (d := d) ⟨rfl, rfl, rfl, g_TongueError m, rfl, rfl, rfl, rfl, rfl, rfl, by decide⟩ (ex_here (ex_expr (evx_call (distance_ok m hP).f (ea_cons (nm 0) (ea_cons (nm 1) (ea_cons (nm 2) ea_nil))) hS))) ex)
    (eb_cons (es_setO (ss_ 6) (eo_lst (ea_cons (ev_isiE (bi (f_isinstance m) bt_isinstance) ek (sl_ 4) rfl (by exact rfl) (by exact rfl) (g_InvalidPrices m) kp) (ea_cons (ev_isiE (bi (f_isinstance m) bt_isinstance) ek (sl_ 4) rfl (by exact rfl) (by exact rfl) (g_InvalidWord m) kw) ea_nil)) (by show 2 ≤ sizeLine; omega)))
    (eb_one (es_ret (ev_and (k := true) (k' := true) ((EvC.v (ec_eqN (ds := [.bool (decide (C = "InvalidPrices")), .bool (decide (C = "InvalidWord"))]) (sl_ 6) rfl (EvO.lst (eo_lst (ea_cons (EvC.v (ec_eqI (nm 3) ev_int)) (ea_cons (EvC.v (ec_neI (nm 3) ev_int)) ea_nil)) (by show 2 ≤ sizeLine; omega))) rfl (shp _ _) (shp _ _))).to ?e1)
      fun _ => ev_and1 ((EvC.v (ec_eqX (ev_repr (bi (f_repr m) bt_repr) (ev_valE ek (sl_ 4) rfl) sh) (ev_repr (bi (f_repr m) bt_repr) (ev_ixL (EvO.data (eo_lst (ea_cons (nm 0) (ea_cons (nm 1) (ea_cons (nm 2) ea_nil))) (by show 3 ≤ sizeLine; omega))) (nm 3) hd) sh))).to (congrArg PyData.bool (decide_eq_true rfl)))))))))  rfl
  case e1 =>
    show PyData.bool (PyData.eqv (.list [.bool (decide (C = "InvalidPrices")), .bool (decide (C = "InvalidWord"))]) (.list [.bool (decide (kind = 0)), .bool (!decide (kind = 0))])) = .bool true
    rw [hk2, hk]
    cases decide (C = "InvalidPrices") <;> cases decide (C = "InvalidWord") <;> rfl
theorem refused_ok (m : M g) (hP : g.P = prog36) : FnM g 7 "_law_refused" ["prices", "one", "other", "kind"] sp_refused := m__law_refused m fun ws bs res h hl => by
  obtain ⟨P, a, b, kind, C, d, s1, s2, s3, dd, sh, rf, rfl, rfl, rfl⟩ := h
  rcases rf with ⟨rfl, rfl, rfl, h1⟩ | ⟨rfl, rfl, rfl, h1, h2⟩ | ⟨rfl, rfl, rfl, h1, h2, h3⟩
  · exact refused_core m hP s1 s2 s3 dd sh m2 ⟨_, _, _, s1, s2, s3, rfl, rfl, .inl ⟨h1, dd, rfl⟩⟩ (by decide +kernel) (by decide +kernel) rfl
  · exact refused_core m hP s1 s2 s3 dd sh m1 ⟨_, _, _, s1, s2, s3, rfl, rfl, .inr (.inl ⟨h1, h2, dd, rfl⟩)⟩ (by decide +kernel) (by decide +kernel) rfl
  · exact refused_core m hP s1 s2 s3 dd sh m1 ⟨_, _, _, s1, s2, s3, rfl, rfl, .inr (.inr (.inl ⟨h1, h2, h3, dd, rfl⟩))⟩ (by decide +kernel) (by decide +kernel) rfl
end
end TR

set_option Elab.async false
set_option linter.all false
set_option maxRecDepth 100000
set_option maxHeartbeats 4000000
namespace TR
open PySem PySem.Spec L2
/-! ### the price of what is made -/
theorem D_leave {p : Pr} {u v : Nat → Nat} {i j : Nat} : D p u v (i + 1) j ≤ D p u v i j + p.leave := by
  cases j with
  | zero =>
    rw [D_i0, D_i0]
    have e : p.leave * ((i + 1 : Nat) : Int) = p.leave * i + p.leave := by rw [Int.natCast_add, Int.mul_add]; simp
    omega
  | succ j => exact D_min.2.1
theorem D_put {p : Pr} {u v : Nat → Nat} {i j : Nat} : D p u v i (j + 1) ≤ D p u v i j + p.put := by
  cases i with
  | zero =>
    rw [D_0j, D_0j]
    have e : p.put * ((j + 1 : Nat) : Int) = p.put * j + p.put := by rw [Int.natCast_add, Int.mul_add]; simp
    omega
  | succ i => exact D_min.1
theorem ltr_app {fo l : List Nat} {k : Nat} (h : k < fo.length) : ltr (strL (fo ++ l)) k = ltr (strL fo) k := by
  have h1 := ltr_strL (cs := fo ++ l) (k := k) (by rw [List.length_append]; omega)
  have h2 := ltr_strL (cs := fo) (k := k) h
  rw [List.getElem?_append_left h, h2] at h1
  exact (Option.some.inj h1).symm
theorem ltr_app2 {fo l : List Nat} {k c : Nat} (h : l[k]? = some c) : ltr (strL (fo ++ l)) (fo.length + k) = c := by
  have hl := lt_of_get h
  have h1 := ltr_strL (cs := fo ++ l) (k := fo.length + k) (by rw [List.length_append]; omega)
  rw [List.getElem?_append_right (by omega), Nat.add_sub_cancel_left, h] at h1
  exact (Option.some.inj h1).symm
theorem D_app {p : Pr} {u : Nat → Nat} {fo l : List Nat} {i : Nat} : D p u (ltr (strL (fo ++ l))) i fo.length = D p u (ltr (strL fo)) i fo.length := D_congr' (fun _ _ => rfl) fun k hk => ltr_app hk
def GoodL (cs : List Nat) : Prop := ∀ c ∈ cs, c = 97 ∨ c = 98 ∨ c = 99
structure MOk (p : Pr) (w : Str) (s : MS) : Prop where
  at_ : s.at_ ≤ w.length
  le : D p (ltr w) (ltr (strL s.fo)) s.at_ s.fo.length ≤ s.cost
  good : GoodL s.fo
  len : s.fo.length ≤ 2 * s.at_
theorem ltr3 {s : Str} (h : s.cps.getD 0 0 = 97 ∧ s.cps.getD 1 0 = 98 ∧ s.cps.getD 2 0 = 99) {n : Nat} (hn : n < 3) : ltr s n = 97 ∨ ltr s n = 98 ∨ ltr s n = 99 := by
  obtain ⟨a, b, c⟩ := h
  match n, hn with
  | 0, _ => exact .inl a
  | 1, _ => exact .inr (.inl b)
  | 2, _ => exact .inr (.inr c)
theorem abc3 : abc.cps.getD 0 0 = 97 ∧ abc.cps.getD 1 0 = 98 ∧ abc.cps.getD 2 0 = 99 := by decide +kernel
theorem alph3 : alph.cps.getD 0 0 = 97 ∧ alph.cps.getD 1 0 = 98 ∧ alph.cps.getD 2 0 = 99 := by decide +kernel
def GoodW (w : Str) : Prop := ∀ k, k < w.length → ltr w k = 97 ∨ ltr w k = 98 ∨ ltr w k = 99
theorem goodL_app {a b : List Nat} (h1 : GoodL a) (h2 : GoodL b) : GoodL (a ++ b) := fun c hc => (List.mem_append.mp hc).elim (h1 c) (h2 c)
theorem stepM_ok {p : Pr} {w : Str} {s : MS} (hp : p.Pos) (hw : GoodW w) (h : MOk p w s) (hat : s.at_ < w.length) : MOk p w (stepM p w s) := by
  obtain ⟨h1, h2, h3, h4⟩ := h
  have hc := hp.change
  have gl : GoodL [ltr w s.at_] := fun c hc => by
    have := List.mem_singleton.mp hc
    rw [this]
    exact hw _ hat
  have g3 : GoodL [ltr abc (takeV s.ns.dropLast 3).toNat] := fun c hc => by
    have := List.mem_singleton.mp hc
    rw [this]
    exact ltr3 abc3 (take_lt (ns := s.ns.dropLast) (lim := 3) (n := 3) rfl (by decide)).2
  unfold stepM
  split
  · refine ⟨by dsimp only; omega, ?_, h3, by dsimp only; omega⟩
    dsimp only
    have := D_leave (p := p) (u := ltr w) (v := ltr (strL s.fo)) (i := s.at_) (j := s.fo.length)
    omega
  split
  · refine ⟨by dsimp only; omega, ?_, goodL_app h3 g3, by dsimp only; rw [List.length_append]; simp only [List.length_cons, List.length_nil]; omega⟩
    dsimp only
    have e : (s.fo ++ [ltr abc (takeV s.ns.dropLast 3).toNat]).length = s.fo.length + 1 := by simp
    rw [e]
    obtain ⟨_, _, g, _, _⟩ := D_min (p := p) (u := ltr w) (v := ltr (strL (s.fo ++ [ltr abc (takeV s.ns.dropLast 3).toNat]))) (i := s.at_) (j := s.fo.length)
    rw [D_app] at g
    have : cost p (ltr w) (ltr (strL (s.fo ++ [ltr abc (takeV s.ns.dropLast 3).toNat]))) s.at_ s.fo.length ≤ p.change := by unfold cost; split <;> omega
    omega
  split
  · refine ⟨by dsimp only; omega, ?_, goodL_app h3 (goodL_app (a := [_]) g3 gl), by dsimp only; rw [List.length_append]; simp only [List.length_cons, List.length_nil]; omega⟩
    dsimp only
    have e : (s.fo ++ [ltr abc (takeV s.ns.dropLast 3).toNat, ltr w s.at_]).length = s.fo.length + 2 := by simp
    rw [e]
    have q1 := D_put (p := p) (u := ltr w) (v := ltr (strL (s.fo ++ [ltr abc (takeV s.ns.dropLast 3).toNat, ltr w s.at_]))) (i := s.at_) (j := s.fo.length)
    rw [D_app] at q1
    obtain ⟨_, _, g, _, _⟩ := D_min (p := p) (u := ltr w) (v := ltr (strL (s.fo ++ [ltr abc (takeV s.ns.dropLast 3).toNat, ltr w s.at_]))) (i := s.at_) (j := s.fo.length + 1)
    have c0 : cost p (ltr w) (ltr (strL (s.fo ++ [ltr abc (takeV s.ns.dropLast 3).toNat, ltr w s.at_]))) s.at_ (s.fo.length + 1) = 0 := if_pos (ltr_app2 (k := 1) rfl).symm
    show D p (ltr w) (ltr (strL (s.fo ++ [ltr abc (takeV s.ns.dropLast 3).toNat, ltr w s.at_]))) (s.at_ + 1) (s.fo.length + 1 + 1) ≤ _
    omega
  split
  · rename_i t
    obtain ⟨_, t1, t2⟩ := t
    have g2 : GoodL [ltr w (s.at_ + 1), ltr w s.at_] := fun c hc => by
      rcases List.mem_cons.mp hc with rfl | hc
      · exact hw _ t1
      · exact gl c hc
    refine ⟨by dsimp only; omega, ?_, goodL_app h3 g2, by dsimp only; rw [List.length_append]; simp only [List.length_cons, List.length_nil]; omega⟩
    dsimp only
    have e : (s.fo ++ [ltr w (s.at_ + 1), ltr w s.at_]).length = s.fo.length + 2 := by simp
    rw [e]
    obtain ⟨_, _, _, g, _⟩ := D_min (p := p) (u := ltr w) (v := ltr (strL (s.fo ++ [ltr w (s.at_ + 1), ltr w s.at_]))) (i := s.at_ + 1) (j := s.fo.length + 1)
    have g := g s.at_ s.fo.length rfl rfl ⟨t2, (ltr_app2 (k := 1) rfl).symm, (ltr_app2 (k := 0) rfl).symm⟩
    rw [D_app] at g
    show D p (ltr w) (ltr (strL (s.fo ++ [ltr w (s.at_ + 1), ltr w s.at_]))) (s.at_ + 1 + 1) (s.fo.length + 1 + 1) ≤ _
    omega
  · refine ⟨by dsimp only; omega, ?_, goodL_app h3 gl, by dsimp only; rw [List.length_append]; simp only [List.length_cons, List.length_nil]; omega⟩
    dsimp only
    have e : (s.fo ++ [ltr w s.at_]).length = s.fo.length + 1 := by simp
    rw [e]
    obtain ⟨_, _, g, _, _⟩ := D_min (p := p) (u := ltr w) (v := ltr (strL (s.fo ++ [ltr w s.at_]))) (i := s.at_) (j := s.fo.length)
    rw [D_app] at g
    have c0 : cost p (ltr w) (ltr (strL (s.fo ++ [ltr w s.at_]))) s.at_ s.fo.length = 0 := if_pos (ltr_app2 (k := 0) rfl).symm
    omega
theorem runM_ok {p : Pr} {w : Str} (hp : p.Pos) (hw : GoodW w) : ∀ (f : Nat) (s : MS), w.length ≤ s.at_ + f → MOk p w s → MOk p w (runM p w f s) ∧ (runM p w f s).at_ = w.length := by
  intro f
  induction f with
  | zero => intro s h m; exact ⟨m, by have := m.at_; show s.at_ = _; omega⟩
  | succ f ih =>
    intro s h m
    show MOk p w (if s.at_ < w.length then _ else _) ∧ (if s.at_ < w.length then runM p w f (stepM p w s) else s).at_ = _
    by_cases c : s.at_ < w.length
    · rw [if_pos c]
      have := (stepM_at (p := p) (w := w) (s := s)).1
      exact ih _ (by omega) (stepM_ok hp hw m c)
    · rw [if_neg c]
      exact ⟨m, by have := m.at_; omega⟩
theorem madeOf_ok {p : Pr} {w : Str} (ns : List Int) (hp : p.Pos) (hw : GoodW w) : D p (ltr w) (ltr (strL (madeOf p w ns).fo)) w.length (strL (madeOf p w ns).fo).length ≤ (madeOf p w ns).cost ∧ GoodL (madeOf p w ns).fo ∧ (madeOf p w ns).fo.length ≤ 2 * w.length := by
  obtain ⟨m, e⟩ := runM_ok hp hw w.length ⟨ns, 0, [], 0⟩ (by show w.length ≤ 0 + w.length; omega) ⟨Nat.zero_le _, by show D p (ltr w) _ 0 0 ≤ 0; rw [D_i0]; simp, (fun c hc => absurd hc List.not_mem_nil), Nat.zero_le _⟩
  have h := m.le
  have l := m.len
  have e' : (madeOf p w ns).at_ = w.length := e
  refine ⟨?_, m.good, ?_⟩
  · rw [strL_len]
    have h' : D p (ltr w) (ltr (strL (madeOf p w ns).fo)) (madeOf p w ns).at_ (madeOf p w ns).fo.length ≤ (madeOf p w ns).cost := h
    rw [e'] at h'
    exact h'
  · have l' : (madeOf p w ns).fo.length ≤ 2 * (madeOf p w ns).at_ := l
    rw [e'] at l'
    exact l'
theorem textOf_ok (ns : List Int) : GoodL (textOf ns).1 ∧ (textOf ns).1.length ≤ 12 := by
  have t := (take_lt (ns := ns) (lim := 13) (n := 13) rfl (by decide)).2
  refine ⟨fun c hc => ?_, ?_⟩
  · unfold textOf at hc
    obtain ⟨k, _, rfl⟩ := List.mem_map.mp hc
    exact ltr3 alph3 (take_lt (ns := dl k ns.dropLast) (lim := 3) (n := 3) rfl (by decide)).2
  · unfold textOf
    simp only [List.length_map, List.length_range]
    omega
theorem goodW_of {cs : List Nat} (h : GoodL cs) : GoodW (strL cs) := fun k hk => h _ (List.mem_of_getElem? (ltr_strL (by rw [strL_len] at hk; exact hk)))
theorem good_word {cs : List Nat} (h : GoodL cs) : isWord 12 (.str (strL cs)) = true := by
  show (strL cs).cps.toList.all (fun c => decide (c ∈ lets 12)) = true
  have m97 : (97 : Nat) ∈ lets 12 := by decide +kernel
  have m98 : (98 : Nat) ∈ lets 12 := by decide +kernel
  have m99 : (99 : Nat) ∈ lets 12 := by decide +kernel
  rw [List.all_eq_true]
  intro c hc
  have hc' : c ∈ cs := by simpa [strL] using hc
  rcases h c hc' with rfl | rfl | rfl
  · exact decide_eq_true m97
  · exact decide_eq_true m98
  · exact decide_eq_true m99
/-- the price is 0 exactly for equal words -/
theorem D_eq_iff {p : Pr} (hp : p.Pos) {a b : List Nat} : D p (ltr (strL a)) (ltr (strL b)) (strL a).length (strL b).length = 0 ↔ strL a = strL b := by
  constructor
  · intro h
    obtain ⟨e, k⟩ := D_zero hp _ _ _ (Nat.le_refl _) h
    rw [strL_len, strL_len] at e
    have : a = b := by
      apply List.ext_getElem?
      intro i
      by_cases hi : i < a.length
      · rw [ltr_strL hi, ltr_strL (cs := b) (by omega), k i (by rw [strL_len]; exact hi)]
      · rw [List.getElem?_eq_none (by omega), List.getElem?_eq_none (by omega)]
    rw [this]
  · intro h
    rw [h]
    exact D_self hp _
theorem due_shows {p : Pr} (hp : p.Ok) {u v : Nat → Nat} {i j : Nat} (hi : i ≤ 1000) (hj : j ≤ 1000) : Shows (.int (D p u v i j)) := by
  have h0 := D_nonneg (u := u) (v := v) hp.pos (i + j) i j (Nat.le_refl _)
  have h1 := D_le (u := u) (v := v) hp.pos j i
  have b1 : p.leave * i ≤ 1000000 := by
    have := Int.mul_le_mul hp.leave.2 (show (i : Int) ≤ 1000 by omega) (by omega) (by decide)
    omega
  have b2 : p.put * j ≤ 1000000 := by
    have := Int.mul_le_mul hp.put.2 (show (j : Int) ≤ 1000 by omega) (by omega) (by decide)
    omega
  generalize D p u v i j = x at h0 h1
  have hx : x.natAbs < 2 ^ 1920 := Nat.lt_of_le_of_lt (show x.natAbs ≤ 2000000 by omega) (by decide +kernel)
  refine ⟨decide_eq_true ?_, .inl ⟨x, rfl⟩, rfl, Nat.zero_le _⟩
  by_cases z : x.natAbs = 0
  · rw [z]
    decide
  · exact (Nat.log2_lt z).mpr hx
end TR

set_option Elab.async false
set_option linter.all false
set_option maxRecDepth 100000
set_option maxHeartbeats 4000000
namespace TR
open PySem PySem.Spec L2
/-! ### the law: slots script 0 pool 1 turn 2 prices 3 word 4 other 5 most 6 due 7 turned 8 bads 9 bad 10 odd 11 -/
structure TD where
  p : Pr
  w : List Nat
  o : List Nat
  mo : Option Int
  ns : List Int
def td (ns : List Int) : TD :=
  let p := (pricesOf ns).1
  let n1 := (pricesOf ns).2
  let w := (textOf n1).1
  let n2 := (textOf n1).2
  let md := madeOf p (strL w) n2
  if takeV md.ns 3 = 0 then ⟨p, w, (textOf md.ns.dropLast).1, none, (textOf md.ns.dropLast).2⟩ else ⟨p, w, md.fo, some md.cost, md.ns.dropLast⟩
def moD : Option Int → PyData
  | none => .none
  | some c => .int c
def TD.due (t : TD) : Int := D t.p (ltr (strL t.w)) (ltr (strL t.o)) (strL t.w).length (strL t.o).length
structure TD.Ok (t : TD) : Prop where
  p : t.p.Ok
  w : GoodL t.w ∧ t.w.length ≤ 12
  o : GoodL t.o ∧ t.o.length ≤ 24
  mo : ∀ c, t.mo = some c → t.due ≤ c
theorem td_ok (ns : List Int) : (td ns).Ok := by
  have hp := pricesOf_ok ns
  have hw := textOf_ok (pricesOf ns).2
  have gw := goodW_of hw.1
  have hm := madeOf_ok (textOf (pricesOf ns).2).2 hp.pos gw
  unfold td
  dsimp only
  split
  · have ho := textOf_ok (madeOf (pricesOf ns).1 (strL (textOf (pricesOf ns).2).1) (textOf (pricesOf ns).2).2).ns.dropLast
    exact ⟨hp, hw, ⟨ho.1, by have := ho.2; dsimp only; omega⟩, fun c h => nomatch h⟩
  · refine ⟨hp, hw, ⟨hm.2.1, ?_⟩, fun c h => ?_⟩
    · have h1 := hm.2.2
      rw [strL_len] at h1
      have h2 := hw.2
      dsimp only
      omega
    · cases h
      exact hm.1
section
variable {g : G}
theorem distK (m : M g) (hP : g.P = prog36) {q : Q} (hq : q.g = g) (hk : 5 ≤ q.k) (gl : GlQ q "distance") : FnK q "distance" ["prices", "one", "other"] (sp_distance g) ["other", "one", "prices"] [2, 1, 0] := by
  subst hq
  obtain ⟨f, fd, G0, B0, m0, k0, oc, od, osl, lk⟩ := (distance_ok m hP).ex
  obtain ⟨fd', F⟩ := m.c.d.def_ 11 (d := d_distance) rfl
  obtain ⟨oc', od', dV, kV, doc, pm, an, cdv, ct, osl', rfl, lk', hcd, hD, hK⟩ := F.ex
  have e1 : f = He.ga q.g.K "distance" := by
    have z := m0.symm.trans (g_distance m)
    cases z
    rfl
  subst e1
  have e2 := (show q.g.K.lookup (He.ga q.g.K "distance") = _ from lk').symm.trans lk
  cases e2
  rcases hD with ⟨_, rfl⟩ | ⟨e, _⟩
  · exact ⟨⟨5, _, _, hk, G0, fun s us hl => match us, hl with | [_, _, _], _ => .of_eq rfl, m0, k0⟩, gl, rfl⟩
  · exact absurd rfl e
def lawE (ns sc : List Int) (b2 b3 b4 b5 b6 b7 b8 b9 b10 b11 : W) : S := ⟨[.dat (.list (intD sc)), .own (.lst (intD ns)), b2, b3, b4, b5, b6, b7, b8, b9, b10, b11], []⟩
def lawT (sc : List Int) (k : Nat) (t : TD) : S := lawE t.ns sc (.dat (.int (k : Int))) (.dat (prD t.p)) (.dat (.str (strL t.w))) (.dat (.str (strL t.o))) (.dat (moD t.mo)) (.dat (.int t.due)) (.dat (prD t.p.swap)) .un .un .un
theorem law_tail (m : M g) (hP : g.P = prog36) {sc : List Int} {k : Nat} {t : TD} (ok : t.Ok) {b7 b8 : W} {rest els : List Stmt} {a1 a2 a3 a4 : Stmt} {tg it : Expr} {pos : Pos} (hb : (defBody s_law)[1]? = some (.For tg it (a1 :: a2 :: a3 :: a4 :: rest) els pos)) :
    EvB (q_law g 8) rest (lawE t.ns sc (.dat (.int (k : Int))) (.dat (prD t.p)) (.dat (.str (strL t.w))) (.dat (.str (strL t.o))) (.dat (moD t.mo)) b7 b8 .un .un .un) (.nx (lawT sc k t)) := by
  cases hb
  have sz := sizeLine_eq
  have lw : (strL t.w).length ≤ 1000 := by have := ok.w.2; rw [strL_len]; omega
  have lo : (strL t.o).length ≤ 1000 := by have := ok.o.2; rw [strL_len]; omega
  have iw := good_word ok.w.1
  have io := good_word ok.o.1
  have sh : Shows (.int t.due) := due_shows ok.p lw lo
  have s4 : ∀ p : Pr, small2 (prD p) := fun p => (show 4 ≤ 1000 by decide)
  have sp1 : sp_distance g [.dat (prD t.p), .dat (.str (strL t.w)), .dat (.str (strL t.o))] [] (.d (.int t.due) []) := ⟨prD t.p, .str (strL t.w), .str (strL t.o), s4 _, lw, lo, rfl, rfl, .inr (.inr (.inr ⟨t.p, strL t.w, strL t.o, rfl, rfl, rfl, ok.p.are, iw, io, rfl⟩))⟩
  have sp2 : sp_distance g [.dat (prD t.p.swap), .dat (.str (strL t.o)), .dat (.str (strL t.w))] [] (.d (.int t.due) []) := ⟨prD t.p.swap, .str (strL t.o), .str (strL t.w), s4 _, lo, lw, rfl, rfl, .inr (.inr (.inr ⟨t.p.swap, strL t.o, strL t.w, rfl, rfl, rfl, ok.p.swap.are, io, iw, by unfold TD.due; rw [D_swap']⟩))⟩
  have sp3 : sp_distance g [.dat (prD t.p), .dat (.str (strL t.w)), .dat (.str (strL t.w))] [] (.d (.int 0) []) := ⟨prD t.p, .str (strL t.w), .str (strL t.w), s4 _, lw, lw, rfl, rfl, .inr (.inr (.inr ⟨t.p, strL t.w, strL t.w, rfl, rfl, rfl, ok.p.are, iw, iw, by rw [D_self ok.p.pos]⟩))⟩
  have eqz : decide (t.due = 0) = decide (strL t.w = strL t.o) := decide_eq_decide.mpr (D_eq_iff ok.p.pos)
  refine eb_cons (es_set (ss_ 7) ((ev_call (ld_ok m).f (ea_cons (nm 3) (ea_cons (nm 4) (ea_cons (nm 5) ea_nil))) ⟨t.p, strL t.w, strL t.o, lw, lo, rfl, rfl, rfl⟩).to (d1 := .int t.due) rfl)) ?_
  refine eb_cons (es_ifF (EvT.to (EvW.t (ew_or (k := false) (k' := false) ((EvC.t (ec_neX (ev_repr (bi (f_repr m) bt_repr) (ev_call (distance_ok m hP).f (ea_cons (nm 3) (ea_cons (nm 4) (ea_cons (nm 5) ea_nil))) sp1) sh) (ev_repr (bi (f_repr m) bt_repr) (nm 7) sh))).to (by rw [decide_eq_true rfl]; rfl))
    fun _ => ew_or1 ((EvC.t (ec_neI (ev_callK (distK m hP rfl (by show 5 ≤ 8; decide) (by exact rfl)) (ek_cons (nm 5) (ek_cons (nm 4) (ek_cons (nm 3) ek_nil))) sp1) (nm 7))).to (by rw [decide_eq_true rfl]; rfl)))) rfl) eb_nil) ?_
  refine eb_cons (es_ifF (EvT.to (EvW.t (ew_or (k := false) (k' := false) ?mo fun _ => ew_or1 ((EvC.t (ec_neB (EvC.v (ec_eqI (nm 7) ev_int)) (EvC.v (ec_eqX (nm 4) (nm 5))))).to (by rw [eqz, decide_eq_true rfl]; rfl)))) rfl) eb_nil) ?_
  case mo =>
    cases h : t.mo with
    | none => exact EvW.t (ew_and (k := false) (k' := false) ((EvC.t (ec_isnot (nm 6) ev_non)).to rfl) fun z => nomatch z)
    | some c =>
      have hc := ok.mo c h
      exact EvW.t (ew_and (k := true) (k' := false) ((EvC.t (ec_isnot (nm 6) ev_non)).to rfl) fun _ => ew_and1 ((EvC.t (ec_gt (nm 7) (nm 6))).to (decide_eq_false (by show ¬ c < t.due; omega))))
  refine eb_cons (es_set (ss_ 8) ((ev_catT (ev_tup (ea_cons (ev_ixT (nm 3) ev_int rfl) (ea_cons (ev_ixT (nm 3) ev_int rfl) ea_nil)) (by show 2 ≤ sizeLine; omega)) (ev_slT (nm 3) (ep_some ev_int) ep_none) ?cz).to (d1 := prD t.p.swap) rfl)) ?_
  case cz => exact (show 2 + 2 ≤ sizeLine by omega)
  exact eb_one (es_ifF (EvT.to (EvW.t (ew_or (k := false) (k' := false) ((EvC.t (ec_neI (ev_call (distance_ok m hP).f (ea_cons (nm 8) (ea_cons (nm 5) (ea_cons (nm 4) ea_nil))) sp2) (nm 7))).to (by rw [decide_eq_true rfl]; rfl))
    fun _ => ew_or1 ((EvC.t (ec_neI (ev_call (distance_ok m hP).f (ea_cons (nm 3) (ea_cons (nm 4) (ea_cons (nm 4) ea_nil))) sp3) ev_int)).to rfl))) rfl) eb_nil)
theorem law_turn (m : M g) (hP : g.P = prog36) {ns sc : List Int} {k : Nat} {b3 b4 b5 b6 b7 b8 : W} {body els : List Stmt} {tg it : Expr} {pos : Pos} (hb : (defBody s_law)[1]? = some (.For tg it body els pos)) :
    EvB (q_law g 8) body (lawE ns sc (.dat (.int (k : Int))) b3 b4 b5 b6 b7 b8 .un .un .un) (.nx (lawT sc k (td ns))) := by
  have hb0 := hb
  cases hb
  have sz := sizeLine_eq
  have ok := td_ok ns
  have hw := textOf_ok (pricesOf ns).2
  have lw : (strL (textOf (pricesOf ns).2).1).length ≤ 1000 := by have := hw.2; rw [strL_len]; omega
  refine eb_cons (es_set (ss_ 3) (ev_callB (i := 1) (prices_ok m).f rfl (er_bor (sl_ 1) er_nil) rfl ⟨ns, rfl, rfl, rfl⟩)) ?_
  refine eb_cons (es_set (ss_ 4) (ev_callB (i := 1) (text_ok m).f rfl (er_bor (sl_ 1) (er_dat ev_int (er_dat ev_int er_nil))) rfl ⟨(pricesOf ns).2, rfl, rfl, rfl⟩)) ?_
  refine eb_cons (es_tup (is := [5, 6]) (js := [5, 6]) (ev_callB (i := 1) (made_ok m).f rfl (er_bor (sl_ 1) (er_dat (nm 3) (er_dat (nm 4) er_nil))) rfl ⟨(textOf (pricesOf ns).2).2, (pricesOf ns).1, strL (textOf (pricesOf ns).2).1, lw, rfl, rfl, rfl⟩) (eg_cons (ss_ 5) (eg_cons (ss_ 6) eg_nil (by decide)) (by decide)) rfl) ?_
  by_cases h : takeV (madeOf (pricesOf ns).1 (strL (textOf (pricesOf ns).2).1) (textOf (pricesOf ns).2).2).ns 3 = 0
  · have e : td ns = ⟨(pricesOf ns).1, (textOf (pricesOf ns).2).1, (textOf (madeOf (pricesOf ns).1 (strL (textOf (pricesOf ns).2).1) (textOf (pricesOf ns).2).2).ns.dropLast).1, none, (textOf (madeOf (pricesOf ns).1 (strL (textOf (pricesOf ns).2).1) (textOf (pricesOf ns).2).2).ns.dropLast).2⟩ := by unfold td; dsimp only; rw [if_pos h]
    rw [e] at ok ⊢
    exact eb_cons (es_ifT ((EvC.t (ec_eqI (ev_take (take_ok m).f (sl_ 1) rfl ev_int (by decide)) ev_int)).to (decide_eq_true h)) (eb_one (es_par (ss_ 5) (ss_ 6) (by decide) rfl rfl (ea_cons (ev_callB (i := 1) (text_ok m).f rfl (er_bor (sl_ 1) (er_dat ev_int (er_dat ev_int er_nil))) rfl ⟨(madeOf (pricesOf ns).1 (strL (textOf (pricesOf ns).2).1) (textOf (pricesOf ns).2).2).ns.dropLast, rfl, rfl, rfl⟩) (ea_cons ev_non ea_nil)) (by
      intro env he
      cases env
      dsimp only at he
      subst he
      kernel_rfl)))) (law_tail m hP ok hb0)
  · have e : td ns = ⟨(pricesOf ns).1, (textOf (pricesOf ns).2).1, (madeOf (pricesOf ns).1 (strL (textOf (pricesOf ns).2).1) (textOf (pricesOf ns).2).2).fo, some (madeOf (pricesOf ns).1 (strL (textOf (pricesOf ns).2).1) (textOf (pricesOf ns).2).2).cost, (madeOf (pricesOf ns).1 (strL (textOf (pricesOf ns).2).1) (textOf (pricesOf ns).2).2).ns.dropLast⟩ := by unfold td; dsimp only; rw [if_neg h]
    rw [e] at ok ⊢
    exact eb_cons (es_ifF ((EvC.t (ec_eqI (ev_take (take_ok m).f (sl_ 1) rfl ev_int (by decide)) ev_int)).to (decide_eq_false h)) eb_nil) (law_tail m hP ok hb0)
/-! ### the law itself -/
def nsAt (sc : List Int) : Nat → List Int
  | 0 => poolOf sc
  | k + 1 => (td (nsAt sc k)).ns
def lawS (sc : List Int) (k : Nat) : S := match k with
  | 0 => lawE (poolOf sc) sc .un .un .un .un .un .un .un .un .un .un
  | k + 1 => lawT sc k (td (nsAt sc k))
def bads : List PyData := [.tuple [.int 0, .int 1, .int 1, .int 1], .tuple [.int 1, .int 1, .int 1], .tuple [.int 1, .int 1, .int 1, .int 1001], .list [.int 1, .int 1, .int 1, .int 1], .tuple [.int 1, .bool true, .int 1, .int 1], .none, .tuple [.int 1, .int 1, .int 1, .int (-1)]]
def odds : List PyData := [.str "m", .none, .list [.str "a"], .str "aB", .int 3]
def goodB (d : PyData) : Prop := arePrices d = false ∧ small2 d ∧ small d ∧ dep 1 d ∧ Shows d
def goodO (d : PyData) : Prop := isWord 12 d = false ∧ small d ∧ dep 1 d ∧ Shows d
def dep0B : PyData → Bool
  | .none | .bool _ | .int _ | .str _ => true
  | _ => false
def dep1B : PyData → Bool
  | .list ds => decide (ds.length ≤ 100) && ds.all dep0B
  | .tuple ds => decide (ds.length ≤ 100) && ds.all dep0B
  | d => dep0B d
def showsB (d : PyData) : Bool := d.showable && (decide (d.shown.length ≤ 1000) && (!d.hasDict && decide (d.depth ≤ 64)))
def smallB : PyData → Bool
  | .str y => decide (y.length ≤ 1000)
  | .tuple ds => decide (ds.length ≤ 1000)
  | _ => true
theorem dep0_of {d : PyData} (h : dep0B d = true) : dep 0 d := by cases d <;> first | trivial | cases h
theorem dep1_of {d : PyData} (h : dep1B d = true) : dep 1 d := by
  have sz := sizeLine_eq
  cases d with
  | list ds =>
    obtain ⟨a, b⟩ := Bool.and_eq_true_iff.mp (show (decide (ds.length ≤ 100) && ds.all dep0B) = true from h)
    exact ⟨by have := of_decide_eq_true a; omega, fun x hx => dep0_of (List.all_eq_true.mp b x hx)⟩
  | tuple ds =>
    obtain ⟨a, b⟩ := Bool.and_eq_true_iff.mp (show (decide (ds.length ≤ 100) && ds.all dep0B) = true from h)
    exact ⟨by have := of_decide_eq_true a; omega, fun x hx => dep0_of (List.all_eq_true.mp b x hx)⟩
  | dict kvs => cases h
  | _ => trivial
theorem shows_of {d : PyData} (h : showsB d = true) : Shows d := by
  have sz := sizeLine_eq
  unfold showsB at h
  obtain ⟨a, h⟩ := Bool.and_eq_true_iff.mp h
  obtain ⟨b, h⟩ := Bool.and_eq_true_iff.mp h
  obtain ⟨c, e⟩ := Bool.and_eq_true_iff.mp h
  exact ⟨a, .inr (by have := of_decide_eq_true b; omega), by simpa using c, of_decide_eq_true e⟩
theorem small_of {d : PyData} (h : smallB d = true) : small d ∧ small2 d := by
  cases d with
  | str y => exact ⟨(of_decide_eq_true (show decide (y.length ≤ 1000) = true from h) : y.length ≤ 1000), trivial⟩
  | tuple ds => exact ⟨trivial, (of_decide_eq_true (show decide (ds.length ≤ 1000) = true from h) : ds.length ≤ 1000)⟩
  | _ => exact ⟨trivial, trivial⟩
def goodBB (d : PyData) : Bool := !arePrices d && (smallB d && (dep1B d && showsB d))
def goodOB (d : PyData) : Bool := !isWord 12 d && (smallB d && (dep1B d && showsB d))
theorem goodB_of {d : PyData} (h : goodBB d = true) : goodB d := by
  unfold goodBB at h
  obtain ⟨a, h⟩ := Bool.and_eq_true_iff.mp h
  obtain ⟨b, h⟩ := Bool.and_eq_true_iff.mp h
  obtain ⟨c, e⟩ := Bool.and_eq_true_iff.mp h
  exact ⟨by simpa using a, (small_of b).2, (small_of b).1, dep1_of c, shows_of e⟩
theorem goodO_of {d : PyData} (h : goodOB d = true) : goodO d := by
  unfold goodOB at h
  obtain ⟨a, h⟩ := Bool.and_eq_true_iff.mp h
  obtain ⟨b, h⟩ := Bool.and_eq_true_iff.mp h
  obtain ⟨c, e⟩ := Bool.and_eq_true_iff.mp h
  exact ⟨by simpa using a, (small_of b).1, dep1_of c, shows_of e⟩
theorem bads_ok : ∀ d ∈ bads, goodB d := fun d hd => goodB_of (List.all_eq_true.mp (by decide +kernel : bads.all goodBB = true) d hd)
theorem odds_ok : ∀ d ∈ odds, goodO d := fun d hd => goodO_of (List.all_eq_true.mp (by decide +kernel : odds.all goodOB = true) d hd)
end
end TR

set_option Elab.async false
set_option linter.all false
set_option maxRecDepth 100000
set_option maxHeartbeats 400000
namespace TR
open PySem PySem.Spec L2
section
variable {g : G}
theorem sw_list {es : List Expr} {pos : Pos} {tg : Option Expr} {l : Nat} {env : Env} : swapsWith (.List es pos) tg l env = pure false := rfl
theorem sw_sub {a b : Expr} {pos : Pos} {tg : Option Expr} {l : Nat} {env : Env} : swapsWith (.Subscript a b pos) tg l env = pure false := rfl
def isStar : Expr → Bool
  | .Starred _ _ => true
  | _ => false
theorem sE {e : Expr} {es : List Expr} {env : Env} (h : isStar e = false) : starEach (e :: es) env = (false, eval e env) :: starEach es env := by cases e <;> first | rfl | cases h
theorem bads_ev {q : Q} {σ : S} {es : List Expr} (h : EvA q es σ bads σ) {pos : Pos} : EvO q (.List es pos) σ bads σ := eo_lst h (by have := sizeLine_eq; show 7 ≤ sizeLine; omega)
section
variable {q : Q} {σ : S} {a b c d : Int} {bb : Bool} {ka kb kc kd k : Nat} {pa pb pc pd pos pn : Pos}
theorem tupC4 : EvD q (.Tuple [.Constant (.int a) ka pa, .Constant (.int b) kb pb, .Constant (.int c) kc pc, .Constant (.int d) kd pd] k pos) σ (.tuple [.int a, .int b, .int c, .int d]) σ :=
  ev_tup (ea_cons ev_int (ea_cons ev_int (ea_cons ev_int (ea_cons ev_int ea_nil)))) (by have := sizeLine_eq; show 4 ≤ sizeLine; omega)
theorem tupC3 : EvD q (.Tuple [.Constant (.int a) ka pa, .Constant (.int b) kb pb, .Constant (.int c) kc pc] k pos) σ (.tuple [.int a, .int b, .int c]) σ :=
  ev_tup (ea_cons ev_int (ea_cons ev_int (ea_cons ev_int ea_nil))) (by have := sizeLine_eq; show 3 ≤ sizeLine; omega)
theorem tupB4 : EvD q (.Tuple [.Constant (.int a) ka pa, .Constant (.bool bb) kb pb, .Constant (.int c) kc pc, .Constant (.int d) kd pd] k pos) σ (.tuple [.int a, .bool bb, .int c, .int d]) σ :=
  ev_tup (ea_cons ev_int (ea_cons ev_bl (ea_cons ev_int (ea_cons ev_int ea_nil)))) (by have := sizeLine_eq; show 4 ≤ sizeLine; omega)
theorem tupN4 : EvD q (.Tuple [.Constant (.int a) ka pa, .Constant (.int b) kb pb, .Constant (.int c) kc pc, .UnaryOp .USub (.Constant (.int d) kd pd) pn] k pos) σ (.tuple [.int a, .int b, .int c, .int (-d)]) σ :=
  ev_tup (ea_cons ev_int (ea_cons ev_int (ea_cons ev_int (ea_cons (ev_neg ev_int) ea_nil)))) (by have := sizeLine_eq; show 4 ≤ sizeLine; omega)
theorem lstC4 : EvD q (.List [.Constant (.int a) ka pa, .Constant (.int b) kb pb, .Constant (.int c) kc pc, .Constant (.int d) kd pd] pos) σ (.list [.int a, .int b, .int c, .int d]) σ :=
  EvO.data (eo_lst (ea_cons ev_int (ea_cons ev_int (ea_cons ev_int (ea_cons ev_int ea_nil)))) (by have := sizeLine_eq; show 4 ≤ sizeLine; omega))
theorem lstS1 {x : Str} : EvD q (.List [.Constant (.str x) ka pa] pos) σ (.list [.str x]) σ :=
  EvO.data (eo_lst (ea_cons ev_str ea_nil) (by have := sizeLine_eq; show 1 ≤ sizeLine; omega))
theorem odds_ev {x y z : Str} {n : Int} {k1 k2 k3 k4 k5 : Nat} {p1 p2 p3 p4 p5 p6 : Pos} : EvD q (.List [.Constant (.str x) k1 p1, .Constant .none k2 p2, .List [.Constant (.str y) k3 p3] p4, .Constant (.str z) k4 p5, .Constant (.int n) k5 p6] pos) σ (.list [.str x, .none, .list [.str y], .str z, .int n]) σ :=
  EvO.data (eo_lst (ea_cons ev_str (ea_cons ev_non (ea_cons lstS1 (ea_cons ev_str (ea_cons ev_int ea_nil))))) (by have := sizeLine_eq; show 5 ≤ sizeLine; omega))
end
theorem law_end (m : M g) (hP : g.P = prog36) {sc ns : List Int} {b2 b3 b4 b5 b6 b7 b8 : W} {rest : List Stmt} {a1 a2 : Stmt} (hb : defBody s_law = a1 :: a2 :: rest) :
    ∃ b9 b10 b11 ns', EvB (q_law g 8) rest (lawE ns sc b2 b3 b4 b5 b6 b7 b8 .un .un .un) (.rd (.bool true) (lawE ns' sc b2 b3 b4 b5 b6 b7 b8 b9 b10 b11)) := by
  cases hb
  have sz := sizeLine_eq
  obtain ⟨r1, r2⟩ := take_lt (ns := ns) (lim := 7) (n := 7) rfl (by decide)
  obtain ⟨o1, o2⟩ := take_lt (ns := ns.dropLast) (lim := 5) (n := 5) rfl (by decide)
  obtain ⟨bad, hbad⟩ : ∃ d, bads[(takeV ns 7).toNat]? = some d := ⟨_, List.getElem?_eq_getElem (show (takeV ns 7).toNat < bads.length from r2)⟩
  obtain ⟨odd, hodd⟩ : ∃ d, odds[(takeV ns.dropLast 5).toNat]? = some d := ⟨_, List.getElem?_eq_getElem (show (takeV ns.dropLast 5).toNat < odds.length from o2)⟩
  obtain ⟨g1, g2, g3, g4, g5⟩ := bads_ok bad (List.mem_of_getElem? hbad)
  obtain ⟨d1, d2, d3, d4⟩ := odds_ok odd (List.mem_of_getElem? hodd)
  have ab : atI bads (takeV ns 7) = some bad := by rw [r1]; exact atI_nat hbad
  have ao : atI odds (takeV ns.dropLast 5) = some odd := by rw [o1]; exact atI_nat hodd
  have wa : small (.str "a") := by show Str.length _ ≤ 1000; decide +kernel
  have wab : small (.str "ab") := by show Str.length _ ≤ 1000; decide +kernel
  refine ⟨.own (.lst bads), .dat bad, .dat odd, ns.dropLast.dropLast, ?_⟩
  refine eb_cons (σ1 := lawE ns sc b2 b3 b4 b5 b6 b7 b8 (.own (.lst bads)) .un .un) ?_ ?_
  · have e : Out.nx ((lawE ns sc b2 b3 b4 b5 b6 b7 b8 .un .un .un).set 9 (.own (.lst bads))) = .nx (lawE ns sc b2 b3 b4 b5 b6 b7 b8 (.own (.lst bads)) .un .un) := rfl
    rw [← e]
    refine es_setO ?_ ?_ ?_
    · exact ss_ 9
    case refine_3 => intro env; exact sw_list
    refine bads_ev ?_
    generalize lawE ns sc b2 b3 b4 b5 b6 b7 b8 .un .un .un = σ
    refine ea_cons (σ1 := σ) ?_ ?_ ?_
    · exact tupC4
    case refine_3 => intro env; exact sE rfl
    refine ea_cons (σ1 := σ) ?_ ?_ ?_
    · exact tupC3
    case refine_3 => intro env; exact sE rfl
    refine ea_cons (σ1 := σ) ?_ ?_ ?_
    · exact tupC4
    case refine_3 => intro env; exact sE rfl
    refine ea_cons (σ1 := σ) ?_ ?_ ?_
    · exact lstC4
    case refine_3 => intro env; exact sE rfl
    refine ea_cons (σ1 := σ) ?_ ?_ ?_
    · exact tupB4
    case refine_3 => intro env; exact sE rfl
    refine ea_cons (σ1 := σ) ?_ ?_ ?_
    · exact ev_non
    case refine_3 => intro env; exact sE rfl
    refine ea_cons (σ1 := σ) ?_ ?_ ?_
    · exact tupN4
    case refine_3 => intro env; exact sE rfl
    exact ea_nil
  refine eb_cons (σ1 := lawE ns.dropLast sc b2 b3 b4 b5 b6 b7 b8 (.own (.lst bads)) (.dat bad) .un) ?_ ?_
  · have e : Out.nx (((lawE ns sc b2 b3 b4 b5 b6 b7 b8 (.own (.lst bads)) .un .un).put 1 (.lst (intD ns.dropLast))).set 10 (.dat bad)) = .nx (lawE ns.dropLast sc b2 b3 b4 b5 b6 b7 b8 (.own (.lst bads)) (.dat bad) .un) := rfl
    rw [← e]
    refine es_set ?_ ?_ ?_
    · exact ss_ 10
    · exact ev_ixN (sl_ 9) rfl (ev_take (take_ok m).f (sl_ 1) rfl ev_int (by decide)) rfl ab
    · intro env; exact sw_sub
  refine eb_cons (σ1 := lawE ns.dropLast.dropLast sc b2 b3 b4 b5 b6 b7 b8 (.own (.lst bads)) (.dat bad) (.dat odd)) ?_ ?_
  · have e : Out.nx (((lawE ns.dropLast sc b2 b3 b4 b5 b6 b7 b8 (.own (.lst bads)) (.dat bad) .un).put 1 (.lst (intD ns.dropLast.dropLast))).set 11 (.dat odd)) = .nx (lawE ns.dropLast.dropLast sc b2 b3 b4 b5 b6 b7 b8 (.own (.lst bads)) (.dat bad) (.dat odd)) := rfl
    rw [← e]
    refine es_set ?_ ?_ ?_
    · exact ss_ 11
    · exact ev_ixL (ds := odds) odds_ev (ev_take (take_ok m).f (sl_ 1) rfl ev_int (by decide)) ao
    · intro env; exact sw_sub
  refine eb_cons (σ1 := lawE ns.dropLast.dropLast sc b2 b3 b4 b5 b6 b7 b8 (.own (.lst bads)) (.dat bad) (.dat odd)) ?_ ?_
  · refine es_ifF (EvT.to (EvW.t (ew_or (k := false) (k' := false) (et_not (k := true) (EvD.t ?c1)) fun _ => ew_or1 (et_not (k := true) (EvD.t ?c2)))) rfl) eb_nil
    · exact ev_call (refused_ok m hP).f (ea_cons (nm 10) (ea_cons ev_str (ea_cons (nm 11) (ea_cons ev_int ea_nil)))) ⟨bad, .str "a", odd, 0, "InvalidPrices", bad, g2, wa, d2, g4, g5, .inl ⟨rfl, rfl, rfl, g1⟩, rfl, rfl, rfl⟩
    · exact ev_call (refused_ok m hP).f (ea_cons tupC4 (ea_cons (nm 11) (ea_cons (nm 10) (ea_cons ev_int ea_nil)))) ⟨.tuple [.int 1, .int 1, .int 1, .int 1], odd, bad, 1, "InvalidWord", odd, (show 4 ≤ 1000 by decide), d2, g3, d3, d4, .inr (.inl ⟨rfl, rfl, rfl, (by decide +kernel), d1⟩), rfl, rfl, rfl⟩
  refine eb_one (es_ret ?_)
  exact ev_call (refused_ok m hP).f (ea_cons tupC4 (ea_cons ev_str (ea_cons (nm 11) (ea_cons ev_int ea_nil)))) ⟨.tuple [.int 2, .int 2, .int 2, .int 2], .str "ab", odd, 2, "InvalidWord", odd, (show 4 ≤ 1000 by decide), wab, d2, d3, d4, .inr (.inr ⟨rfl, rfl, rfl, (by decide +kernel), (by decide +kernel), d1⟩), rfl, rfl, rfl⟩
end
end TR

set_option Elab.async false
set_option linter.all false
set_option maxRecDepth 100000
set_option maxHeartbeats 400000
namespace TR
open PySem PySem.Spec L2
section
variable {g : G}
theorem law_first (m : M g) {sc : List Int} (hn : sc.length ≤ 63) {a1 : Stmt} {rest : List Stmt} (hb : defBody s_law = a1 :: rest) : EvS (q_law g 8) a1 (S.start (q_law g 8).N [.dat (.list (sc.map .int))] []) (.nx (lawS sc 0)) := by
  cases hb
  have e : Out.nx ((S.start (q_law g 8).N [.dat (.list (sc.map .int))] []).set 1 (.own (.lst (intD (poolOf sc))))) = .nx (lawS sc 0) := rfl
  rw [← e]
  refine es_setO ?_ ?_ ?_
  · exact ss_ 1
  · exact eo_call (pool_ok m).f (ea_cons (nm 0) (ea_cons ev_int ea_nil)) ⟨sc, hn, rfl, rfl, rfl⟩
  · intro env; rfl
theorem law_loop (m : M g) (hP : g.P = prog36) {sc : List Int} {a1 : Stmt} {rest body els : List Stmt} {tg it : Expr} {pos : Pos} (hb : defBody s_law = a1 :: .For tg it body els pos :: rest) : EvS (q_law g 8) (.For tg it body els pos) (lawS sc 0) (.nx (lawS sc 6)) := by
  have hb2 : (defBody s_law)[1]? = some (.For tg it body els pos) := by rw [hb]; rfl
  have step : ∀ k, EvB (q_law g 8) body ((lawS sc k).set 2 (.dat (.int (0 + (k : Int))))) (.nx (lawS sc (k + 1))) := fun k => by
    have ek : (0 + (k : Int)) = ((k : Nat) : Int) := by omega
    rw [ek]
    cases k with
    | zero => exact law_turn m hP (ns := nsAt sc 0) hb2
    | succ k => exact law_turn m hP (ns := nsAt sc (k + 1)) hb2
  have hl6 : (ranged 0 (6 : Int).toNat).length = 6 := by simp [ranged]
  have e : Out.nx (lawS sc (ranged 0 (6 : Int).toNat).length) = .nx (lawS sc 6) := by rw [hl6]
  rw [← e]
  clear hb2
  cases hb
  refine es_for (s := lawS sc) (f := fun σ d => σ.set 2 (.dat d)) (ok := fun _ => True) (js := [2]) (ds := ranged 0 (6 : Int).toNat) ?_ ?_ (fun _ _ => trivial) (.all fun k d hd => .inl ?_)
  · exact ei_range1 (n := 6) (bi (f_range m) bt_range) ev_int (by decide) (by decide)
  · exact eg_name (js := [2]) (ss_ 2) (by decide)
  · obtain ⟨rfl, hk⟩ := ranged_get hd
    exact step k
theorem law_body (m : M g) (hP : g.P = prog36) {sc : List Int} (hn : sc.length ≤ 63) : ∃ σ', EvB (q_law g 8) (defBody s_law) (S.start (q_law g 8).N [.dat (.list (sc.map .int))] []) (.rd (.bool true) σ') ∧ σ'.bs = [] := by
  obtain ⟨a1, tg, it, body, els, pos, rest, hb⟩ : ∃ a1 tg it body els pos rest, defBody s_law = a1 :: .For tg it body els pos :: rest := ⟨_, _, _, _, _, _, _, rfl⟩
  obtain ⟨b9, b10, b11, ns', he⟩ := law_end m hP (sc := sc) (ns := (td (nsAt sc 5)).ns) (b2 := .dat (.int ((5 : Nat) : Int))) (b3 := .dat (prD (td (nsAt sc 5)).p)) (b4 := .dat (.str (strL (td (nsAt sc 5)).w))) (b5 := .dat (.str (strL (td (nsAt sc 5)).o))) (b6 := .dat (moD (td (nsAt sc 5)).mo)) (b7 := .dat (.int (td (nsAt sc 5)).due)) (b8 := .dat (prD (td (nsAt sc 5)).p.swap)) hb
  have h1 := law_first m hn hb
  have h2 := law_loop m hP (sc := sc) hb
  rw [hb]
  exact ⟨_, eb_cons h1 (eb_cons h2 he), rfl⟩
theorem law_ok (m : M g) (hP : g.P = prog36) : FnM g 9 "law" ["script"] (spLaw 63) := m_law m fun ws bs res h hl => by
  obtain ⟨sc, hn, rfl, rfl, rfl⟩ := h
  obtain ⟨σ', h, e⟩ := law_body m hP hn
  exact fnD h rfl e
end
end TR
open PySem PySem.W PySem.Calls PyProof.Rows
set_option maxRecDepth 100000 in
set_option maxHeartbeats 8000000 in
theorem PySem.Challenge.cw_tonguerules_k36_distances_of_words_holds : PySem.Challenge.rw_tonguerules_k36_distances_of_words.Holds := by
  w_on; o_law
  refine HandSHeadRun.head_any (r := OpenLaw.row PySem.Challenge.rw_tonguerules_k36_distances_of_words) (q := view (OpenLaw.row PySem.Challenge.rw_tonguerules_k36_distances_of_words).prog [31]) (H := TR.hk) (ob := TR.ob) (M := 2000) (loose := TR.loose) (d := HandSHeadRun.topDef (OpenLaw.row PySem.Challenge.rw_tonguerules_k36_distances_of_words).prog 31) (kwd := []) TR.ob_eq
    (by kernel_rfl) (fun s => by kernel_rfl) TR.run (by kernel_rfl) (by kernel_rfl) (by kernel_rfl) (by rfl) (by first | assumption | decide +kernel) (by decide +kernel) ⟨rfl, rfl, rfl, rfl, rfl, by decide +kernel⟩ ?hw ?hc
  case hw => w_witness2
  case hc => exact TR.walkG (l := PySem.Challenge.rw_tonguerules_k36_distances_of_words) (n := 63) (k := 9) (x := "script") rfl (by decide) (by kernel_rfl) ⟨rfl, by decide, by decide⟩ (by kernel_rfl) fun g hP m => TR.law_ok m hP

